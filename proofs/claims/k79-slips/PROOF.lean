import PyProof.Rows.All
import HandS.ForMost
import HandS.Wide
import HandS.Zip
import HandS.Style
import HandS.IsInst
import HandS.TupAny
import HandS.RaiseMore
import KE.KRevSl
import PyProof.ReprRoads
import PyProof.WalksMore
import PyProof.SumWalkG
import HandS.SetFor
import PyProof.ReprLen
import PyProof.ReprText
import PyProof.P3Eq
import PyProof.Draws
import PyProof.EnumMake
import HandS.Strs
import HandS.SortInts
import HandS.TupMul
import HandS.Flow
import KE.SortData
import HandS.Ends
import PySem.Challenge.RW_nosurewin_k79_slips_and_pools_by_product
set_option Elab.async false
set_option linter.all false
set_option maxRecDepth 100000
set_option maxHeartbeats 4000000
namespace Nz
open PySem PySem.Spec PyProof.Rows L2

/-! ### heaps: growth, hiding -/
def Ex (H H' : Hp) : Prop := ∀ a o, H a = some o → H' a = some o
theorem Ex.refl (H : Hp) : Ex H H := fun _ _ h => h
theorem Ex.trans {H H1 H2 : Hp} (a : Ex H H1) (b : Ex H1 H2) : Ex H H2 := fun x o h => b x o (a x o h)
theorem Ex.new {H : Hp} {p : Addr} {o : HO} (h : H p = none) : Ex H (upd H p o) := fun a u e => by
  rw [upd_ne (ne_of_none e h)]; exact e
def hide (S : List Addr) (H : Hp) : Hp := fun a => if a ∈ S then none else H a
theorem hide_some {S : List Addr} {H : Hp} {a : Addr} {o : HO} (h : hide S H a = some o) : a ∉ S ∧ H a = some o := by
  unfold hide at h
  by_cases e : a ∈ S
  · rw [if_pos e] at h; cases h
  · rw [if_neg e] at h; exact ⟨e, h⟩
theorem hide_of {S : List Addr} {H : Hp} {a : Addr} {o : HO} (n : a ∉ S) (h : H a = some o) : hide S H a = some o := by
  unfold hide; rw [if_neg n]; exact h
theorem hide_ex (S : List Addr) (H : Hp) : Ex (hide S H) H := fun _ _ h => (hide_some h).2
/-- less hidden, more there -/
theorem hide_mono {S S' : List Addr} {H H' : Hp} (h : ∀ a o, a ∉ S → H a = some o → a ∉ S' ∧ H' a = some o) : Ex (hide S H) (hide S' H') := fun a o e =>
  have ⟨n, e⟩ := hide_some e
  have ⟨n', e'⟩ := h a o n e
  hide_of n' e'

/-- a tuple with no dict of its own -/
def Pt (K : PySem.W.Frag) (H : Hp) (a : Addr) (xs : List V) : Prop :=
  (∃ o, H a = some (.frz o (.tup xs)) ∧ o.dict = none) ∨
    ∃ (o : Obj) (its : Array Value) (n : Nat), K.lookup a = some o ∧ o.cls = .type "tuple" ∧ o.dict = none ∧ o.data = .seq its n ∧ its.size ≤ sizeLine ∧ Vals xs its.toList
theorem Pt.sq {K : PySem.W.Frag} {H : Hp} {a : Addr} {xs : List V} (h : Pt K H a xs) : SqT K H a xs := by
  rcases h with ⟨o, h, _⟩ | ⟨o, its, n, h1, h2, _, h4, h5, h6⟩
  · exact .inl (.inr ⟨o, h⟩)
  · exact .inr ⟨o, its, n, h1, h2, h4, h5, h6⟩
/-! data at any depth; tuples have no dict of their own -/
mutual
inductive Dz (K : PySem.W.Frag) (H : Hp) : V → PyData → Prop
  | non : Dz K H .non .none
  | bl (b : Bool) : Dz K H (.bl b) (.bool b)
  | int (i : Int) : Dz K H (.int i) (.int i)
  | str (x : Str) : Dz K H (.str x) (.str x)
  | lst {a : Addr} {xs : List V} {ds : List PyData} : SqL K H a xs → DzAll K H xs ds → Dz K H (.ref a) (.list ds)
  | tup {a : Addr} {xs : List V} {ds : List PyData} : Pt K H a xs → DzAll K H xs ds → Dz K H (.ref a) (.tuple ds)
inductive DzAll (K : PySem.W.Frag) (H : Hp) : List V → List PyData → Prop
  | nil : DzAll K H [] []
  | cons {v : V} {vs : List V} {d : PyData} {ds : List PyData} : Dz K H v d → DzAll K H vs ds → DzAll K H (v :: vs) (d :: ds)
end
section
variable {K : PySem.W.Frag} {H H' : Hp}
mutual
theorem dz_dp : ∀ (d : PyData) (v : V), Dz K H v d → Dp K H v d
  | .none, _, h => by cases h; exact .non
  | .bool b, _, h => by cases h; exact .bl b
  | .int i, _, h => by cases h; exact .int i
  | .str x, _, h => by cases h; exact .str x
  | .list ds, _, h => by
    cases h with
    | lst hs ha => exact .lst hs (dza_dpa ds _ ha)
  | .tuple ds, _, h => by
    cases h with
    | tup hs ha => exact .tup hs.sq (dza_dpa ds _ ha)
  | .dict _, _, h => by cases h
theorem dza_dpa : ∀ (ds : List PyData) (vs : List V), DzAll K H vs ds → DpAll K H vs ds
  | [], _, h => by cases h; exact .nil
  | d :: ds, _, h => by
    cases h with
    | cons h1 h2 => exact .cons (dz_dp d _ h1) (dza_dpa ds _ h2)
end
end

section
variable {K : PySem.W.Frag} {H H' : Hp}
theorem ex_rd {a : Addr} {u : HO} (e : Ex H H') (h : Rd H a u) : Rd H' a u := by
  rcases h with h | ⟨o, h⟩
  · exact Or.inl (e a _ h)
  · exact Or.inr ⟨o, e a _ h⟩
theorem ex_l {a : Addr} {xs : List V} (e : Ex H H') (h : SqL K H a xs) : SqL K H' a xs := by
  rcases h with h | h
  · exact Or.inl (ex_rd e h)
  · exact Or.inr h
theorem ex_t {a : Addr} {xs : List V} (e : Ex H H') (h : SqT K H a xs) : SqT K H' a xs := by
  rcases h with h | h
  · exact Or.inl (ex_rd e h)
  · exact Or.inr h
theorem ex_p {a : Addr} {xs : List V} (e : Ex H H') (h : Pt K H a xs) : Pt K H' a xs := by
  rcases h with ⟨o, h, z⟩ | h
  · exact .inl ⟨o, e a _ h, z⟩
  · exact .inr h
theorem sq_of {a : Addr} {xs : List V} (h : H a = some (.lst xs)) : SqL K H a xs := Or.inl (Or.inl h)
theorem pt_of {a : Addr} {o : Obj} {xs : List V} (h : H a = some (.frz o (.tup xs))) (z : o.dict = none) : Pt K H a xs := .inl ⟨o, h, z⟩
mutual
theorem dp_mono (e : Ex H H') : ∀ (d : PyData) (v : V), Dz K H v d → Dz K H' v d
  | .none, _, h => by cases h; exact .non
  | .bool b, _, h => by cases h; exact .bl b
  | .int i, _, h => by cases h; exact .int i
  | .str x, _, h => by cases h; exact .str x
  | .list ds, _, h => by
    cases h with
    | lst hs ha => exact .lst (ex_l e hs) (dpa_mono e ds _ ha)
  | .tuple ds, _, h => by
    cases h with
    | tup hs ha => exact .tup (ex_p e hs) (dpa_mono e ds _ ha)
  | .dict _, _, h => by cases h
theorem dpa_mono (e : Ex H H') : ∀ (ds : List PyData) (vs : List V), DzAll K H vs ds → DzAll K H' vs ds
  | [], _, h => by cases h; exact .nil
  | d :: ds, _, h => by
    cases h with
    | cons h1 h2 => exact .cons (dp_mono e d _ h1) (dpa_mono e ds _ h2)
end
theorem dpm (e : Ex H H') {d : PyData} {v : V} (h : Dz K H v d) : Dz K H' v d := dp_mono e d v h
theorem dpam (e : Ex H H') {ds : List PyData} {vs : List V} (h : DzAll K H vs ds) : DzAll K H' vs ds := dpa_mono e ds vs h
theorem dp_int {v : V} {i : Int} (h : Dz K H v (.int i)) : v = .int i := by cases h; rfl
theorem dp_bl {v : V} {b : Bool} (h : Dz K H v (.bool b)) : v = .bl b := by cases h; rfl
theorem dp_str {v : V} {x : Str} (h : Dz K H v (.str x)) : v = .str x := by cases h; rfl
theorem dp_non {v : V} (h : Dz K H v .none) : v = .non := by cases h; rfl
theorem dp_tup {v : V} {ds : List PyData} (h : Dz K H v (.tuple ds)) : ∃ a xs, v = .ref a ∧ Pt K H a xs ∧ DzAll K H xs ds := by
  cases h with
  | tup hs ha => exact ⟨_, _, rfl, hs, ha⟩
theorem dp_lst {v : V} {ds : List PyData} (h : Dz K H v (.list ds)) : ∃ a xs, v = .ref a ∧ SqL K H a xs ∧ DzAll K H xs ds := by
  cases h with
  | lst hs ha => exact ⟨_, _, rfl, hs, ha⟩
theorem dpa_length : ∀ {ds : List PyData} {xs : List V}, DzAll K H xs ds → xs.length = ds.length
  | [], _, h => by cases h; rfl
  | _ :: _, _, h => by
    cases h with
    | cons _ h2 => rw [List.length_cons, List.length_cons, dpa_length h2]
theorem dpa_get : ∀ {ds : List PyData} {xs : List V} {i : Nat} {d : PyData}, DzAll K H xs ds → ds[i]? = some d → ∃ v, xs[i]? = some v ∧ Dz K H v d
  | [], _, _, _, h, e => by simp at e
  | d :: ds, _, 0, _, h, e => by
    cases h with
    | cons h1 h2 =>
      have e' := Option.some.inj e
      subst e'
      exact ⟨_, rfl, h1⟩
  | d :: ds, _, i + 1, d', h, e => by
    cases h with
    | cons h1 h2 =>
      obtain ⟨v, a, b⟩ := dpa_get (i := i) (d := d') h2 (by simpa using e)
      exact ⟨v, by simpa using a, b⟩
theorem dpa_getV : ∀ {ds : List PyData} {xs : List V} {i : Nat} {v : V}, DzAll K H xs ds → xs[i]? = some v → ∃ d, ds[i]? = some d ∧ Dz K H v d := fun {ds xs i v} h e => by
  have hl := dpa_length h
  have hi : i < xs.length := (List.getElem?_eq_some_iff.mp e).1
  have hi' : i < ds.length := by omega
  have ⟨w, a, b⟩ := dpa_get h (List.getElem?_eq_getElem hi')
  rw [a] at e; cases e
  exact ⟨_, List.getElem?_eq_getElem hi', b⟩
theorem dpa_append : ∀ {ds es : List PyData} {xs ys : List V}, DzAll K H xs ds → DzAll K H ys es → DzAll K H (xs ++ ys) (ds ++ es)
  | [], _, _, _, h, h2 => by cases h; exact h2
  | _ :: _, _, _, _, h, h2 => by
    cases h with
    | cons a b => exact .cons a (dpa_append b h2)
theorem dpa_set : ∀ {ds : List PyData} {xs : List V} {v : V} {d : PyData} (i : Nat), DzAll K H xs ds → Dz K H v d → DzAll K H (xs.set i v) (ds.set i d)
  | [], _, _, _, _, h, _ => by cases h; exact .nil
  | _ :: _, _, _, _, 0, h, h2 => by
    cases h with
    | cons a b => exact .cons h2 b
  | _ :: _, _, _, _, i + 1, h, h2 => by
    cases h with
    | cons a b => exact .cons a (dpa_set i b h2)
theorem dpa_take : ∀ {ds : List PyData} {xs : List V} (n : Nat), DzAll K H xs ds → DzAll K H (xs.take n) (ds.take n)
  | _, _, 0, _ => by simp; exact .nil
  | [], _, _ + 1, h => by cases h; exact .nil
  | _ :: _, _, n + 1, h => by
    cases h with
    | cons a b => exact .cons a (dpa_take n b)
theorem dpa_drop : ∀ {ds : List PyData} {xs : List V} (n : Nat), DzAll K H xs ds → DzAll K H (xs.drop n) (ds.drop n)
  | _, _, 0, h => h
  | [], _, _ + 1, h => by cases h; exact .nil
  | _ :: _, _, n + 1, h => by
    cases h with
    | cons a b => exact dpa_drop n b
theorem dpa_rev {ds : List PyData} {xs : List V} (h : DzAll K H xs ds) : DzAll K H xs.reverse ds.reverse := by
  induction ds generalizing xs with
  | nil => cases h; exact .nil
  | cons d ds ih =>
    cases h with
    | cons a b =>
      rw [List.reverse_cons, List.reverse_cons]
      exact dpa_append (ih b) (.cons a .nil)
theorem dpa_rep {ds : List PyData} {xs : List V} (h : DzAll K H xs ds) : ∀ k : Nat, DzAll K H (List.replicate k xs).flatten (List.replicate k ds).flatten
  | 0 => by simp; exact .nil
  | k + 1 => by
    rw [List.replicate_succ, List.replicate_succ, List.flatten_cons, List.flatten_cons]
    exact dpa_append h (dpa_rep h k)
theorem dpaInts : ∀ {ns : List Int} {xs : List V}, DzAll K H xs (ns.map .int) → xs = ns.map V.int
  | [], _, h => by cases h; rfl
  | n :: ns, _, h => by
    cases h with
    | cons a b => rw [dp_int a, dpaInts b]; rfl
theorem dpa_ints : ∀ (ns : List Int), DzAll K H (ns.map V.int) (ns.map .int)
  | [] => .nil
  | n :: ns => .cons (.int n) (dpa_ints ns)
theorem dpaBools : ∀ {ns : List Bool} {xs : List V}, DzAll K H xs (ns.map .bool) → xs = ns.map V.bl
  | [], _, h => by cases h; rfl
  | n :: ns, _, h => by
    cases h with
    | cons a b => rw [dp_bl a, dpaBools b]; rfl
end

/-! ### what a frame holds -/
inductive MO where
  | lst (ds : List PyData)
  | dK (kvs : List (Key × PyData))
  | dT (kvs : List (List Key × PyData))
  /-- a list, of which P is known -/
  | any (P : List PyData → Prop)
inductive Sl where
  /-- nothing is known -/
  | no
  /-- data, never changed -/
  | da (d : PyData)
  /-- a thing that may change: of the frame's own (l), or borrowed -/
  | mu (l : Bool) (a : Addr) (o : MO)
  /-- just this value -/
  | vl (v : V)
structure Cz where
  K : PySem.W.Frag
  /-- the heap at the entry -/
  B : Hp
  /-- what is borrowed and may be changed -/
  M : List Addr
  /-- what the caller hides -/
  S0 : List Addr
def mutA : Sl → Option Addr
  | .mu _ a _ => some a
  | _ => none
def muts (ρ : List Sl) : List Addr := ρ.filterMap mutA
abbrev hid (c : Cz) (ρ : List Sl) : List Addr := c.S0 ++ muts ρ
theorem mem_muts {ρ : List Sl} {a : Addr} : a ∈ muts ρ ↔ ∃ (i : Nat) (l : Bool) (o : MO), ρ[i]? = some (Sl.mu l a o) := by
  unfold muts
  rw [List.mem_filterMap]
  constructor
  · rintro ⟨s, hs, e⟩
    obtain ⟨i, hi⟩ := List.mem_iff_getElem?.mp hs
    cases s <;> simp [mutA] at e
    subst e
    exact ⟨i, _, _, hi⟩
  · rintro ⟨i, l, o, h⟩
    exact ⟨_, List.mem_of_getElem? h, rfl⟩
def KVd {κ : Type} (K : PySem.W.Frag) (H : Hp) : List (κ × V) → List (κ × PyData) → Prop := Paired fun p q => p.1 = q.1 ∧ Dz K H p.2 q.2
def MoOk (K : PySem.W.Frag) (S : List Addr) (H : Hp) (a : Addr) : MO → Prop
  | .lst ds => ∃ xs, H a = some (.lst xs) ∧ DzAll K (hide S H) xs ds
  | .dK kvs => ∃ xs, H a = some (.dK xs) ∧ KVd K (hide S H) xs kvs
  | .dT kvs => ∃ xs, H a = some (.dT xs) ∧ KVd K (hide S H) xs kvs
  | .any P => ∃ xs, H a = some (.lst xs) ∧ ∃ ds, P ds ∧ DzAll K (hide S H) xs ds
def SlOk (c : Cz) (S : List Addr) (H : Hp) (x : Option (Option V)) : Sl → Prop
  | .no => True
  | .da d => ∃ v, x = some (some v) ∧ Dz c.K (hide S H) v d
  | .mu l a o => x = some (some (.ref a)) ∧ (if l = true then c.B a = none else a ∈ c.M) ∧ MoOk c.K S H a o
  | .vl v => x = some (some v)
theorem MoOk.there {K : PySem.W.Frag} {S : List Addr} {H : Hp} {a : Addr} {o : MO} (h : MoOk K S H a o) : ∃ u, H a = some u := by
  cases o <;> exact ⟨_, h.choose_spec.1⟩
theorem KVd.mono {κ : Type} {K : PySem.W.Frag} {H H' : Hp} {xs : List (κ × V)} {kvs : List (κ × PyData)} (e : Ex H H') (h : KVd K H xs kvs) : KVd K H' xs kvs :=
  Paired.mapP h fun _ _ z => ⟨z.1, dpm e z.2⟩
theorem MoOk.mono {K : PySem.W.Frag} {S S' : List Addr} {H H' : Hp} {a : Addr} {o : MO} (e : Ex (hide S H) (hide S' H')) (he : H' a = H a) (h : MoOk K S H a o) : MoOk K S' H' a o := by
  cases o with
  | lst ds => obtain ⟨xs, h1, h2⟩ := h; exact ⟨xs, he.trans h1, dpam e h2⟩
  | dK ds => obtain ⟨xs, h1, h2⟩ := h; exact ⟨xs, he.trans h1, h2.mono e⟩
  | dT ds => obtain ⟨xs, h1, h2⟩ := h; exact ⟨xs, he.trans h1, h2.mono e⟩
  | any P => obtain ⟨xs, h1, ds, h3, h2⟩ := h; exact ⟨xs, he.trans h1, ds, h3, dpam e h2⟩

abbrev Tm := List (V × PyData)
structure Wd (c : Cz) (T : Tm) (H : Hp) (σ : L2.St) (ρ : List Sl) : Prop where
  len : σ.length = ρ.length
  keep : ∀ a o, a ∉ c.M → c.B a = some o → H a = some o
  sub : ∀ a ∈ c.M, a ∈ c.S0
  dom : ∀ a ∈ c.S0, ∃ o, H a = some o
  tmp : ∀ p ∈ T, Dz c.K (hide (hid c ρ) H) p.1 p.2
  inj : ∀ (i j : Nat) (l m : Bool) (a : Addr) (o u : MO), ρ[i]? = some (Sl.mu l a o) → ρ[j]? = some (Sl.mu m a u) → i = j
  ap : ∀ (i : Nat) (a : Addr) (o : MO), ρ[i]? = some (Sl.mu true a o) → a ∉ c.S0
  ok : ∀ (i : Nat) (s : Sl), ρ[i]? = some s → SlOk c (hid c ρ) H σ[i]? s

section
variable {c : Cz} {T : Tm} {H H' : Hp} {σ σ' : L2.St} {ρ ρ' : List Sl}
theorem Wd.there (W : Wd c T H σ ρ) {a : Addr} (h : a ∈ hid c ρ) : ∃ o, H a = some o := by
  rcases List.mem_append.mp h with h | h
  · exact W.dom a h
  · obtain ⟨i, l, o, e⟩ := mem_muts.mp h
    exact (W.ok i _ e).2.2.there
theorem Wd.fresh (W : Wd c T H σ ρ) {p : Addr} (h : H p = none) : p ∉ hid c ρ := fun m => by
  obtain ⟨o, e⟩ := W.there m
  rw [h] at e; cases e
theorem Wd.freshB (W : Wd c T H σ ρ) {p : Addr} (h : H p = none) : c.B p = none := by
  cases e : c.B p with
  | none => rfl
  | some o =>
    have n : p ∉ c.M := fun m => W.fresh h (List.mem_append_left _ (W.sub p m))
    have := W.keep p o n e
    rw [h] at this; cases this
/-- the heap has grown -/
theorem Wd.grow (W : Wd c T H σ ρ) (e : Ex H H') : Wd c T H' σ ρ := by
  have e2 : Ex (hide (hid c ρ) H) (hide (hid c ρ) H') := hide_mono fun a o n h => ⟨n, e a o h⟩
  refine ⟨W.len, fun a o n h => e _ _ (W.keep a o n h), W.sub, fun a h => ?_, fun p hp => dpm e2 (W.tmp p hp), W.inj, W.ap, fun i s h => ?_⟩
  · obtain ⟨o, h1⟩ := W.dom a h
    exact ⟨o, e _ _ h1⟩
  · have h1 := W.ok i s h
    cases s with
    | no => exact h1
    | da d => obtain ⟨v, a, b⟩ := h1; exact ⟨v, a, dpm e2 b⟩
    | mu l a o =>
      obtain ⟨x, y, z⟩ := h1
      obtain ⟨u, hu⟩ := z.there
      exact ⟨x, y, z.mono e2 (by rw [hu, e _ _ hu])⟩
    | vl v => exact h1
theorem Wd.push (W : Wd c T H σ ρ) {v : V} {d : PyData} (h : Dz c.K (hide (hid c ρ) H) v d) : Wd c ((v, d) :: T) H σ ρ :=
  ⟨W.len, W.keep, W.sub, W.dom, fun p hp => by
    rcases List.mem_cons.mp hp with e | e
    · subst e; exact h
    · exact W.tmp p e, W.inj, W.ap, W.ok⟩
theorem Wd.tmps {T' : Tm} (W : Wd c T H σ ρ) (h : ∀ p ∈ T', p ∈ T) : Wd c T' H σ ρ := ⟨W.len, W.keep, W.sub, W.dom, fun p hp => W.tmp p (h p hp), W.inj, W.ap, W.ok⟩
theorem Wd.pop {p : V × PyData} (W : Wd c (p :: T) H σ ρ) : Wd c T H σ ρ := W.tmps fun _ h => List.mem_cons_of_mem _ h
theorem Wd.top {v : V} {d : PyData} (W : Wd c ((v, d) :: T) H σ ρ) : Dz c.K H v d := dpm (hide_ex _ _) (W.tmp (v, d) (List.mem_cons_self ..))
theorem Wd.at {v : V} {d : PyData} (W : Wd c T H σ ρ) (h : (v, d) ∈ T) : Dz c.K H v d := dpm (hide_ex _ _) (W.tmp _ h)
theorem slOk_mono {S S' : List Addr} {x : Option (Option V)} {s : Sl} (e : Ex (hide S H) (hide S' H')) (he : ∀ a, mutA s = some a → H' a = H a) (h : SlOk c S H x s) : SlOk c S' H' x s := by
  cases s with
  | no => exact h
  | da d => obtain ⟨v, a, b⟩ := h; exact ⟨v, a, dpm e b⟩
  | mu l a o => obtain ⟨x, y, z⟩ := h; exact ⟨x, y, z.mono e (he a rfl)⟩
  | vl v => exact h
theorem get_set {α : Type} {l : List α} {i j : Nat} {x y : α} (h : (l.set i x)[j]? = some y) : (i = j ∧ i < l.length ∧ y = x) ∨ (i ≠ j ∧ l[j]? = some y) := by
  by_cases q : i = j
  · subst q
    have hi := (List.getElem?_eq_some_iff.mp h).1
    rw [List.length_set] at hi
    rw [List.getElem?_set_self hi] at h
    cases h
    exact .inl ⟨rfl, hi, rfl⟩
  · rw [List.getElem?_set_ne q] at h
    exact .inr ⟨q, h⟩
/-- a slot is stored, nothing that may change -/
theorem Wd.setN (W : Wd c T H σ ρ) (i : Nat) (x : Option V) (s : Sl) (hs : mutA s = none) (h : SlOk c (hid c ρ) H (some x) s) : Wd c T H (σ.set i x) (ρ.set i s) := by
  have r : ∀ {j : Nat} {l : Bool} {a : Addr} {o : MO}, (ρ.set i s)[j]? = some (.mu l a o) → i ≠ j ∧ ρ[j]? = some (.mu l a o) := fun {j l a o} h => by
    rcases get_set h with ⟨_, _, e⟩ | e
    · rw [← e] at hs; cases hs
    · exact e
  have sub : ∀ a, a ∈ hid c (ρ.set i s) → a ∈ hid c ρ := fun a m => by
    rcases List.mem_append.mp m with m | m
    · exact List.mem_append_left _ m
    · obtain ⟨j, l, o, e⟩ := mem_muts.mp m
      exact List.mem_append_right _ (mem_muts.mpr ⟨j, l, o, (r e).2⟩)
  have e2 : Ex (hide (hid c ρ) H) (hide (hid c (ρ.set i s)) H) := hide_mono fun a o n h => ⟨fun m => n (sub a m), h⟩
  refine ⟨by rw [List.length_set, List.length_set]; exact W.len, W.keep, W.sub, W.dom, fun p hp => dpm e2 (W.tmp p hp), fun j k l m a o u h1 h2 => W.inj j k l m a o u (r h1).2 (r h2).2, fun j a o h1 => W.ap j a o (r h1).2, fun j z hz => ?_⟩
  rcases get_set hz with ⟨q, hi, e⟩ | ⟨q, e⟩
  · subst q; subst e
    rw [List.getElem?_set_self (by rw [W.len]; exact hi)]
    exact slOk_mono e2 (fun _ _ => rfl) h
  · rw [List.getElem?_set_ne q]
    exact slOk_mono e2 (fun _ _ => rfl) (W.ok j z e)
theorem Wd.setD {v : V} {d : PyData} (W : Wd c T H σ ρ) (i : Nat) (h : Dz c.K (hide (hid c ρ) H) v d) : Wd c T H (σ.set i (some v)) (ρ.set i (.da d)) :=
  W.setN i (some v) (.da d) rfl ⟨v, rfl, h⟩
/-- what stands at p is hidden too -/
abbrev Cz.hidden (c : Cz) (p : Addr) : Cz := { c with S0 := p :: c.S0 }
theorem Wd.unhide {p : Addr} (W : Wd (c.hidden p) T H σ ρ) (hs : ∀ a ∈ c.M, a ∈ c.S0) : Wd c T H σ ρ := by
  have e2 : Ex (hide (hid (c.hidden p) ρ) H) (hide (hid c ρ) H) := hide_mono fun a o n h => ⟨fun m => n (List.mem_cons_of_mem _ m), h⟩
  exact ⟨W.len, W.keep, hs, fun a h => W.dom a (List.mem_cons_of_mem _ h), fun q hq => dpm e2 (W.tmp q hq), W.inj, fun i a o h m => W.ap i a o h (List.mem_cons_of_mem _ m), fun i s h => by
    have := slOk_mono (H' := H) e2 (fun _ _ => rfl) (W.ok i s h)
    cases s <;> exact this⟩
/-- a fresh thing is hidden -/
theorem Wd.hideNew {p : Addr} {o : HO} (W : Wd c T H σ ρ) (h : H p = none) : Wd (c.hidden p) T (upd H p o) σ ρ := by
  have W2 := W.grow (Ex.new (o := o) h)
  have n := W.fresh h
  have e2 : Ex (hide (hid c ρ) H) (hide (hid (c.hidden p) ρ) (upd H p o)) := hide_mono fun a u m e => ⟨fun q => by
    rcases List.mem_cons.mp q with q | q
    · rw [q, h] at e; cases e
    · exact m q, Ex.new h a u e⟩
  refine ⟨W.len, W2.keep, fun a m => List.mem_cons_of_mem _ (W.sub a m), fun a m => ?_, fun q hq => dpm e2 (W.tmp q hq), W.inj, fun i a u e m => ?_, fun i s m => ?_⟩
  · rcases List.mem_cons.mp m with m | m
    · rw [m]; exact ⟨o, upd_same⟩
    · exact W2.dom a m
  · rcases List.mem_cons.mp m with m | m
    · obtain ⟨z, hz⟩ := (W.ok i _ e).2.2.there
      rw [m, h] at hz; cases hz
    · exact W.ap i a u e m
  · have := slOk_mono (c := c) (H' := upd H p o) e2 (fun a e => by
      cases s with
      | mu l b o' =>
        cases e
        obtain ⟨u, hu⟩ := (W.ok i _ m).2.2.there
        exact upd_ne (ne_of_none hu h)
      | _ => cases e) (W.ok i s m)
    cases s <;> exact this
theorem Wd.notin {p : Addr} (W : Wd (c.hidden p) T H σ ρ) (h0 : p ∉ c.S0) (hs : ∀ a ∈ c.M, a ∈ c.S0) : p ∉ hid c ρ := fun m => by
  rcases List.mem_append.mp m with m | m
  · exact h0 m
  · obtain ⟨i, l, o, e⟩ := mem_muts.mp m
    cases l with
    | true => exact W.ap i p o e (List.mem_cons_self ..)
    | false =>
      have := (W.ok i _ e).2.1
      rw [if_neg (by decide)] at this
      exact h0 (hs p this)
/-- a slot takes a thing that may change -/
theorem Wd.setM {p : Addr} {l : Bool} {o : MO} (W : Wd (c.hidden p) T H σ ρ) (hs : ∀ a ∈ c.M, a ∈ c.S0) (i : Nat) (hB : if l = true then c.B p = none else p ∈ c.M) (hn : p ∉ hid c ρ) (h : MoOk c.K (p :: hid c ρ) H p o) :
    Wd c T H (σ.set i (some (.ref p))) (ρ.set i (.mu l p o)) := by
  have nm : ∀ (j : Nat) (m : Bool) (u : MO), ρ[j]? ≠ some (.mu m p u) := fun j m u e => hn (List.mem_append_right _ (mem_muts.mpr ⟨j, m, u, e⟩))
  have sub : ∀ a, a ∈ hid c (ρ.set i (.mu l p o)) → a ∈ hid (c.hidden p) ρ := fun a m => by
    rcases List.mem_append.mp m with m | m
    · exact List.mem_append_left _ (List.mem_cons_of_mem _ m)
    · obtain ⟨j, l', u, e⟩ := mem_muts.mp m
      rcases get_set e with ⟨_, _, e⟩ | ⟨_, e⟩
      · cases e; exact List.mem_append_left _ (List.mem_cons_self ..)
      · exact List.mem_append_right _ (mem_muts.mpr ⟨j, l', u, e⟩)
  have e2 : Ex (hide (hid (c.hidden p) ρ) H) (hide (hid c (ρ.set i (.mu l p o))) H) := hide_mono fun a o n h => ⟨fun m => n (sub a m), h⟩
  refine ⟨by rw [List.length_set, List.length_set]; exact W.len, W.keep, hs, fun a h => W.dom a (List.mem_cons_of_mem _ h), fun q hq => dpm e2 (W.tmp q hq), fun j k l1 l2 a u u' h1 h2 => ?_, fun j a u h1 => ?_, fun j z hz => ?_⟩
  · rcases get_set h1 with ⟨q, _, e⟩ | ⟨q, e⟩
    · rcases get_set h2 with ⟨q2, _, e'⟩ | ⟨q2, e'⟩
      · exact q.symm.trans q2
      · cases e; exact absurd e' (nm k l2 u')
    · rcases get_set h2 with ⟨q2, _, e'⟩ | ⟨q2, e'⟩
      · cases e'; exact absurd e (nm j l1 u)
      · exact W.inj j k l1 l2 a u u' e e'
  · rcases get_set h1 with ⟨_, _, e⟩ | ⟨_, e⟩
    · cases e; exact fun m => hn (List.mem_append_left _ m)
    · exact fun m => W.ap j a u e (List.mem_cons_of_mem _ m)
  · rcases get_set hz with ⟨q, hi, e⟩ | ⟨q, e⟩
    · subst q; subst e
      rw [List.getElem?_set_self (by rw [W.len]; exact hi)]
      exact ⟨rfl, hB, h.mono e2 rfl⟩
    · rw [List.getElem?_set_ne q]
      have := slOk_mono (H' := H) e2 (fun _ _ => rfl) (W.ok j z e)
      cases z <;> exact this
/-- what may change has changed -/
theorem Wd.chg {a : Addr} {l : Bool} {o o' : MO} {i : Nat} (W : Wd c T H σ ρ) (hi : ρ[i]? = some (.mu l a o)) (hk : ∀ b u, b ≠ a → H b = some u → H' b = some u) (h : MoOk c.K (hid c ρ) H' a o') : Wd c T H' σ (ρ.set i (.mu l a o')) := by
  obtain ⟨h1, h2, h3⟩ := W.ok i _ hi
  have hm : a ∈ hid c ρ := List.mem_append_right _ (mem_muts.mpr ⟨i, l, o, hi⟩)
  have r : ∀ {j : Nat} {m : Bool} {b : Addr} {u : MO}, (ρ.set i (.mu l a o'))[j]? = some (.mu m b u) → ∃ u', ρ[j]? = some (.mu m b u') := fun {j m b u} h => by
    rcases get_set h with ⟨q, _, e⟩ | ⟨_, e⟩
    · cases e; subst q; exact ⟨_, hi⟩
    · exact ⟨_, e⟩
  have sub : ∀ b, b ∈ hid c (ρ.set i (.mu l a o')) → b ∈ hid c ρ := fun b m => by
    rcases List.mem_append.mp m with m | m
    · exact List.mem_append_left _ m
    · obtain ⟨j, m', v, e⟩ := mem_muts.mp m
      obtain ⟨v', e⟩ := r e
      exact List.mem_append_right _ (mem_muts.mpr ⟨j, m', v', e⟩)
  have e2 : Ex (hide (hid c ρ) H) (hide (hid c (ρ.set i (.mu l a o'))) H') := hide_mono fun b v n h => ⟨fun m => n (sub b m), hk b v (fun q => by rw [q] at n; exact n hm) h⟩
  have e3 : Ex (hide (hid c ρ) H') (hide (hid c (ρ.set i (.mu l a o'))) H') := hide_mono fun b v n h => ⟨fun m => n (sub b m), h⟩
  refine ⟨by rw [List.length_set]; exact W.len, fun b v n e => ?_, W.sub, fun b hb => ?_, fun q hq => dpm e2 (W.tmp q hq), fun j k m m' b v v' g1 g2 => ?_, fun j b v g => ?_, fun j z hz => ?_⟩
  · refine hk b v ?_ (W.keep b v n e)
    intro q
    subst q
    cases l with
    | true => rw [if_pos rfl] at h2; rw [h2] at e; cases e
    | false => rw [if_neg (by decide)] at h2; exact n h2
  · by_cases q : b = a
    · subst q; exact h.there
    · obtain ⟨o, e⟩ := W.dom b hb
      exact ⟨o, hk b o q e⟩
  · obtain ⟨w, g1⟩ := r g1
    obtain ⟨w', g2⟩ := r g2
    exact W.inj j k m m' b w w' g1 g2
  · obtain ⟨w, g⟩ := r g
    exact W.ap j b w g
  · rcases get_set hz with ⟨q, _, e⟩ | ⟨q, e⟩
    · subst q; subst e
      exact ⟨h1, h2, h.mono e3 rfl⟩
    · refine slOk_mono e2 (fun b eb => ?_) (W.ok j z e)
      cases z with
      | mu m b' v =>
        cases eb
        have nb : b ≠ a := fun eab => q (by rw [eab] at e; exact W.inj i j l m a _ _ hi e)
        obtain ⟨u, hu⟩ := (W.ok j _ e).2.2.there
        rw [hu, hk _ _ nb hu]
      | _ => cases eb
theorem Wd.updM {a : Addr} {l : Bool} {o o' : MO} {i : Nat} {u : HO} (W : Wd c T H σ ρ) (hi : ρ[i]? = some (.mu l a o)) (h : MoOk c.K (hid c ρ) (upd H a u) a o') : Wd c T (upd H a u) σ (ρ.set i (.mu l a o')) :=
  W.chg hi (fun b v n e => by rw [upd_ne n]; exact e) h
end
def MoLe (o u : MO) : Prop := o = u ∨ ∃ ds P, o = .lst ds ∧ u = .any P ∧ P ds
theorem MoOk.le {K : PySem.W.Frag} {S : List Addr} {H : Hp} {a : Addr} {o u : MO} (h : MoOk K S H a o) (l : MoLe o u) : MoOk K S H a u := by
  rcases l with rfl | ⟨ds, P, rfl, rfl, p⟩
  · exact h
  · obtain ⟨xs, h1, h2⟩ := h
    exact ⟨xs, h1, ds, p, h2⟩
/-- weaker: slots forgotten, things frozen -/
def slLe : Sl → Sl → Prop
  | _, .no => True
  | .da d, .da e => d = e
  | .mu l _ (.lst ds), .da e => l = true ∧ .list ds = e
  | .mu l a o, .mu m b u => l = m ∧ a = b ∧ MoLe o u
  | .vl v, .vl w => v = w
  | _, _ => False
theorem Wd.weak {c : Cz} {T : Tm} {H : Hp} {σ : L2.St} {ρ ρ' : List Sl} (W : Wd c T H σ ρ) (hl : ρ.length = ρ'.length) (h : ∀ (i : Nat) (s s' : Sl), ρ[i]? = some s → ρ'[i]? = some s' → slLe s s') : Wd c T H σ ρ' := by
  have gt : ∀ {i : Nat} {s' : Sl}, ρ'[i]? = some s' → ∃ s, ρ[i]? = some s ∧ slLe s s' := fun {i s'} e => by
    have hi := (List.getElem?_eq_some_iff.mp e).1
    have hi' : i < ρ.length := by omega
    exact ⟨_, List.getElem?_eq_getElem hi', h i _ _ (List.getElem?_eq_getElem hi') e⟩
  have r : ∀ {j : Nat} {m : Bool} {b : Addr} {u : MO}, ρ'[j]? = some (.mu m b u) → ∃ o, ρ[j]? = some (.mu m b o) := fun {j m b u} e => by
    obtain ⟨s, e1, l⟩ := gt e
    cases s with
    | mu l' a' o' =>
      obtain ⟨rfl, rfl, _⟩ : l' = m ∧ a' = b ∧ MoLe o' u := l
      exact ⟨_, e1⟩
    | _ => exact l.elim
  have sub : ∀ b, b ∈ hid c ρ' → b ∈ hid c ρ := fun b m => by
    rcases List.mem_append.mp m with m | m
    · exact List.mem_append_left _ m
    · obtain ⟨j, l, v, e⟩ := mem_muts.mp m
      obtain ⟨o, e⟩ := r e
      exact List.mem_append_right _ (mem_muts.mpr ⟨j, l, o, e⟩)
  have e2 : Ex (hide (hid c ρ) H) (hide (hid c ρ') H) := hide_mono fun a o n h => ⟨fun m => n (sub a m), h⟩
  refine ⟨W.len.trans hl, W.keep, W.sub, W.dom, fun q hq => dpm e2 (W.tmp q hq), fun i j l m a o u h1 h2 => W.inj i j l m a _ _ (r h1).choose_spec (r h2).choose_spec, fun i a o h => W.ap i a _ (r h).choose_spec, fun i s' e => ?_⟩
  obtain ⟨s, e1, le⟩ := gt e
  have ok := slOk_mono (H' := H) e2 (fun _ _ => rfl) (W.ok i s e1)
  cases s' with
  | no => exact trivial
  | da d =>
    cases s with
    | da e =>
      have le : e = d := le
      subst le
      exact ok
    | mu l a o =>
      cases o with
      | lst ds =>
        obtain ⟨rfl, rfl⟩ : l = true ∧ PyData.list ds = d := le
        obtain ⟨x, y, xs, z1, z2⟩ := ok
        rw [if_pos rfl] at y
        refine ⟨.ref a, x, .lst (sq_of (hide_of (fun m => ?_) z1)) z2⟩
        rcases List.mem_append.mp m with m | m
        · exact W.ap i a _ e1 m
        · obtain ⟨j, m', v, e'⟩ := mem_muts.mp m
          have := W.inj i j _ _ _ _ _ e1 (r e').choose_spec
          subst this
          rw [e] at e'
          cases e'
      | dK _ => exact le.elim
      | dT _ => exact le.elim
      | any _ => exact le.elim
    | no => exact le.elim
    | vl _ => exact le.elim
  | mu m b u =>
    cases s with
    | mu l a o =>
      obtain ⟨rfl, rfl, le⟩ : l = m ∧ a = b ∧ MoLe o u := le
      obtain ⟨x, y, z⟩ := ok
      exact ⟨x, y, z.le le⟩
    | _ => exact le.elim
  | vl w =>
    cases s with
    | vl v =>
      have le : v = w := le
      subst le
      exact ok
    | _ => exact le.elim

theorem set_no {ρ : List Sl} {j : Nat} (h : ρ[j]? = some .no) : ρ.set j .no = ρ := by
  apply List.ext_getElem?
  intro k
  by_cases q : j = k
  · subst q
    rw [List.getElem?_set_self (List.getElem?_eq_some_iff.mp h).1, h]
  · rw [List.getElem?_set_ne q]
theorem Wd.wipe {c : Cz} {T : Tm} {H : Hp} {σ : L2.St} {ρ : List Sl} : ∀ {vs : List Nat}, Wd c T H σ ρ → (∀ j ∈ vs, ρ[j]? = some .no) → Wd c T H (L2.wipe σ vs) ρ
  | [], W, _ => W
  | v :: vs, W, h => by
    have W1 := Wd.wipe (vs := vs) W fun j hj => h j (List.mem_cons_of_mem _ hj)
    have W2 := W1.setN v none .no rfl trivial
    rw [set_no (h v (List.mem_cons_self ..))] at W2
    exact W2
theorem wipe_get {σ : L2.St} {i : Nat} : ∀ {vs : List Nat}, i ∉ vs → (L2.wipe σ vs)[i]? = σ[i]?
  | [], _ => rfl
  | v :: vs, h => by
    show ((L2.wipe σ vs).set v none)[i]? = _
    have n : v ≠ i := fun e => h (by rw [e]; exact List.mem_cons_self ..)
    rw [List.getElem?_set_ne n, wipe_get fun m => h (List.mem_cons_of_mem _ m)]
theorem Wd.unwipe {c : Cz} {T : Tm} {H : Hp} {σ : L2.St} {ρ : List Sl} {vs : List Nat} (W : Wd c T H (L2.wipe σ vs) ρ) (h : ∀ j ∈ vs, ρ[j]? = some .no) : Wd c T H σ ρ := by
  refine ⟨by rw [← W.len, L2.wipe_length], W.keep, W.sub, W.dom, W.tmp, W.inj, W.ap, fun i s e => ?_⟩
  by_cases q : i ∈ vs
  · rw [h i q] at e; cases e; exact trivial
  · have := W.ok i s e
    rw [wipe_get q] at this
    exact this
end Nz

namespace Nz
open PySem PySem.Spec PyProof.Rows L2

/-! ### what evaluates to what -/
def Ed (c : Cz) (ρ : List Sl) (te : TE) (d : PyData) (ρ' : List Sl) : Prop := ∀ (T : Tm) (σ : L2.St) (H : Hp), Wd c T H σ ρ → ∀ Q : VK, (∀ v H', Wd c ((v, d) :: T) H' σ ρ' → Q v H') → te σ H Q
def Et (c : Cz) (ρ : List Sl) (tt : TT) (b : Bool) (ρ' : List Sl) : Prop := ∀ (T : Tm) (σ : L2.St) (H : Hp), Wd c T H σ ρ → ∀ Q : Bool → Hp → Prop, (∀ H', Wd c T H' σ ρ' → Q b H') → tt σ H Q
/-- a new list -/
def EdL (c : Cz) (ρ : List Sl) (te : TE) (ds : List PyData) (ρ' : List Sl) : Prop := ∀ (T : Tm) (σ : L2.St) (H : Hp), Wd c T H σ ρ → ∀ Q : VK,
  (∀ p H', c.B p = none → p ∉ hid c ρ' → MoOk c.K (p :: hid c ρ') H' p (.lst ds) → Wd (c.hidden p) T H' σ ρ' → Q (.ref p) H') → te σ H Q
inductive Ar where
  | raw (v : V)
  | dat (d : PyData)
inductive AA (K : PySem.W.Frag) (H : Hp) : List V → List Ar → Prop
  | nil : AA K H [] []
  | raw {v : V} {vs : List V} {as : List Ar} : AA K H vs as → AA K H (v :: vs) (.raw v :: as)
  | dat {v : V} {d : PyData} {vs : List V} {as : List Ar} : Dz K H v d → AA K H vs as → AA K H (v :: vs) (.dat d :: as)
def Ea (c : Cz) (ρ : List Sl) (ta : TA) (as : List Ar) (ρ' : List Sl) : Prop := ∀ (T : Tm) (σ : L2.St) (H : Hp), Wd c T H σ ρ → ∀ Q : List V → Hp → Prop,
  (∀ vs H', AA c.K (hide (hid c ρ') H') vs as → Wd c T H' σ ρ' → Q vs H') → ta σ H Q
/-- a part of a slice -/
def Eo (c : Cz) (ρ : List Sl) (to : TO) (o : Option Int) (ρ' : List Sl) : Prop := ∀ (T : Tm) (σ : L2.St) (H : Hp), Wd c T H σ ρ → ∀ Q : Option Int → Hp → Prop, (∀ H', Wd c T H' σ ρ' → Q o H') → to σ H Q

section
variable {c : Cz} {ρ ρ1 ρ2 ρ3 : List Sl} {ta tb te tx : TE} {t u : TT} {d d1 d2 d3 : PyData} {T : Tm} {H H' : Hp} {σ : L2.St}
theorem Wd.dp {v : V} {d : PyData} {ρ : List Sl} (W : Wd c ((v, d) :: T) H σ ρ) : Dz c.K (hide (hid c ρ) H) v d := W.tmp (v, d) (List.mem_cons_self ..)
theorem ed_is (h : Ed c ρ te d ρ1) (e : d = d1) : Ed c ρ te d1 ρ1 := e ▸ h
theorem et_is {b b1 : Bool} (h : Et c ρ t b ρ1) (e : b = b1) : Et c ρ t b1 ρ1 := e ▸ h
theorem el_is {ds ds1 : List PyData} (h : EdL c ρ te ds ρ1) (e : ds = ds1) : EdL c ρ te ds1 ρ1 := e ▸ h
theorem ed_var {i : Nat} (h : ρ[i]? = some (.da d)) : Ed c ρ (tVar i) d ρ := fun T σ H W Q q => by
  obtain ⟨v, e, dp⟩ := W.ok i _ h
  exact ⟨v, e, q v H (W.push dp)⟩
theorem ed_int {i : Int} : Ed c ρ (tC (.int i)) (.int i) ρ := fun T σ H W Q q => q _ H (W.push (.int i))
theorem ed_bl {b : Bool} : Ed c ρ (tC (.bl b)) (.bool b) ρ := fun T σ H W Q q => q _ H (W.push (.bl b))
theorem ed_str {x : Str} : Ed c ρ (tC (.str x)) (.str x) ρ := fun T σ H W Q q => q _ H (W.push (.str x))
theorem ed_non : Ed c ρ (tC .non) .none ρ := fun T σ H W Q q => q _ H (W.push .non)
/-- a constant of the module -/
theorem ed_ref {a : Addr} (h : ∀ H, Dz c.K H (.ref a) d) : Ed c ρ (tC (.ref a)) d ρ := fun T σ H W Q q => q _ H (W.push (h _))
theorem ed_ofL {ds : List PyData} (h : EdL c ρ te ds ρ1) (hs : ∀ a ∈ c.M, a ∈ c.S0) : Ed c ρ te (.list ds) ρ1 := fun T σ H W Q q => h T σ H W Q fun p H' hB hn hm W' => by
  have W2 := W'.unhide hs
  obtain ⟨xs, h1, h2⟩ := hm
  have e2 : Ex (hide (p :: hid c ρ1) H') (hide (hid c ρ1) H') := hide_mono fun a o n h => ⟨fun m => n (List.mem_cons_of_mem _ m), h⟩
  exact q _ H' (W2.push (.lst (sq_of (hide_of hn h1)) (dpam e2 h2)))
theorem ed_L {ds : List PyData} (h : EdL c ρ te ds ρ1) : Ed c ρ te (.list ds) ρ1 := fun T σ H W => ed_ofL h W.sub T σ H W
/-! #### operators -/
theorem ed_op {r : R2} (ha : Ed c ρ ta d1 ρ1) (hb : Ed c ρ1 tb d2 ρ2)
    (hr : ∀ (T : Tm) (σ : L2.St) (H : Hp) (x y : V), Wd c T H σ ρ2 → Dz c.K (hide (hid c ρ2) H) x d1 → Dz c.K (hide (hid c ρ2) H) y d2 → ∀ Q : VK, (∀ v H', Wd c ((v, d) :: T) H' σ ρ2 → Q v H') → r x y H Q) : Ed c ρ (tOp r ta tb) d ρ2 :=
  fun T σ H W Q q => ha T σ H W _ fun v H1 W1 => hb _ σ H1 W1 _ fun w H2 W2 => hr T σ H2 v w W2.pop.pop W2.pop.dp W2.dp Q q
theorem ed_I0 {f : Int → Int → Int} {i j : Int} (ha : Ed c ρ ta (.int i) ρ1) (hb : Ed c ρ1 tb (.int j) ρ2) : Ed c ρ (tOp (rI0 fun i j => .int (f i j)) ta tb) (.int (f i j)) ρ2 :=
  ed_op ha hb fun T σ H x y W hx hy Q q => ⟨i, j, dp_int hx, dp_int hy, q _ H (W.push (.int _))⟩
theorem ed_B0 {f : Int → Int → Bool} {i j : Int} (ha : Ed c ρ ta (.int i) ρ1) (hb : Ed c ρ1 tb (.int j) ρ2) : Ed c ρ (tOp (rI0 fun i j => .bl (f i j)) ta tb) (.bool (f i j)) ρ2 :=
  ed_op ha hb fun T σ H x y W hx hy Q q => ⟨i, j, dp_int hx, dp_int hy, q _ H (W.push (.bl _))⟩
theorem ed_I {C : Int → Int → Prop} {f : Int → Int → Int} {i j : Int} (ha : Ed c ρ ta (.int i) ρ1) (hb : Ed c ρ1 tb (.int j) ρ2) (hc : C i j) : Ed c ρ (tOp (rI C fun i j => .int (f i j)) ta tb) (.int (f i j)) ρ2 :=
  ed_op ha hb fun T σ H x y W hx hy Q q => ⟨i, j, dp_int hx, dp_int hy, hc, q _ H (W.push (.int _))⟩
theorem ed_neg {f : Int → Int} {i : Int} (ha : Ed c ρ ta (.int i) ρ1) : Ed c ρ (tUn (rU fun i => .int (f i)) ta) (.int (f i)) ρ1 := fun T σ H W Q q => ha T σ H W _ fun v H1 W1 => ⟨i, dp_int W1.dp, q _ H1 (W1.pop.push (.int _))⟩
theorem ed_eq (ha : Ed c ρ ta d1 ρ1) (hb : Ed c ρ1 tb d2 ρ2) (s1 : SeqAt.shaped d1 = true) (s2 : SeqAt.shaped d2 = true) : Ed c ρ (tOp (rEqD c.K) ta tb) (.bool (PyData.eqv d1 d2)) ρ2 :=
  ed_op ha hb fun T σ H x y W hx hy Q q => ⟨d1, d2, dz_dp _ _ (dpm (hide_ex _ _) hx), dz_dp _ _ (dpm (hide_ex _ _) hy), s1, s2, q _ H (W.push (.bl _))⟩
theorem ed_ne (ha : Ed c ρ ta d1 ρ1) (hb : Ed c ρ1 tb d2 ρ2) (s1 : SeqAt.shaped d1 = true) (s2 : SeqAt.shaped d2 = true) : Ed c ρ (tOp (rNeD c.K) ta tb) (.bool (!PyData.eqv d1 d2)) ρ2 :=
  ed_op ha hb fun T σ H x y W hx hy Q q => ⟨d1, d2, dz_dp _ _ (dpm (hide_ex _ _) hx), dz_dp _ _ (dpm (hide_ex _ _) hy), s1, s2, q _ H (W.push (.bl _))⟩
/-- is None, is not None -/
def isNone : PyData → Bool
  | .none => true
  | _ => false
theorem dp_isN {K : PySem.W.Frag} {v : V} (h : Dz K H v d) : decide (v = .non) = isNone d := by
  cases h <;> first | rfl | exact decide_eq_false (fun e => by cases e)
theorem ed_isN (ha : Ed c ρ ta d ρ1) : Ed c ρ (tOp (fun x y H Q => y = .non ∧ Q (.bl (decide (x = .non))) H) ta (tC .non)) (.bool (isNone d)) ρ1 := fun T σ H W Q q => ha T σ H W _ fun v H1 W1 => ⟨rfl, by
  rw [dp_isN W1.dp]
  exact q _ H1 (W1.pop.push (.bl _))⟩
theorem ed_notN (ha : Ed c ρ ta d ρ1) : Ed c ρ (tOp (fun x y H Q => y = .non ∧ Q (.bl (!decide (x = .non))) H) ta (tC .non)) (.bool (!isNone d)) ρ1 := fun T σ H W Q q => ha T σ H W _ fun v H1 W1 => ⟨rfl, by
  rw [dp_isN W1.dp]
  exact q _ H1 (W1.pop.push (.bl _))⟩
/-! #### displays, arguments -/
theorem ea_nil : Ea c ρ tNil [] ρ := fun T σ H W Q q => q [] H .nil W
theorem ea_cons {ts : TA} {as : List Ar} (h : Ed c ρ te d ρ1) (hr : Ea c ρ1 ts as ρ2) : Ea c ρ (tCons te ts) (.dat d :: as) ρ2 := fun T σ H W Q q => h T σ H W _ fun v H1 W1 => hr _ σ H1 W1 _ fun vs H2 a W2 => q _ H2 (.dat W2.dp a) W2.pop
theorem ea_raw {ts : TA} {as : List Ar} {i : Nat} {a : Addr} {l : Bool} {o : MO} (h : ρ[i]? = some (.mu l a o)) (hr : Ea c ρ ts as ρ2) : Ea c ρ (tCons (tVar i) ts) (.raw (.ref a) :: as) ρ2 := fun T σ H W Q q =>
  ⟨.ref a, (W.ok i _ h).1, hr T σ H W _ fun vs H2 a W2 => q _ H2 (.raw a) W2⟩
theorem ea_vl {ts : TA} {as : List Ar} {i : Nat} {v : V} (h : ρ[i]? = some (.vl v)) (hr : Ea c ρ ts as ρ2) : Ea c ρ (tCons (tVar i) ts) (.raw v :: as) ρ2 := fun T σ H W Q q =>
  ⟨v, W.ok i _ h, hr T σ H W _ fun vs H2 a W2 => q _ H2 (.raw a) W2⟩
theorem ea_c {ts : TA} {as : List Ar} {v : V} (hr : Ea c ρ ts as ρ2) : Ea c ρ (tCons (tC v) ts) (.raw v :: as) ρ2 := fun T σ H W Q q => hr T σ H W _ fun vs H2 a W2 => q _ H2 (.raw a) W2
theorem aa_dats {K : PySem.W.Frag} : ∀ {ds : List PyData} {vs : List V}, AA K H vs (ds.map .dat) → DzAll K H vs ds
  | [], _, h => by cases h; exact .nil
  | d :: ds, _, h => by
    cases h with
    | dat h1 h2 => exact .cons h1 (aa_dats h2)
theorem dpa_sz {K : PySem.W.Frag} {ds : List PyData} {vs : List V} (h : DzAll K H vs ds) (hl : ds.length ≤ 100000) : vs.length ≤ sizeLine := by
  rw [dpa_length h]; exact Nat.le_trans hl (by decide)
/-- (a, b, ..): a new tuple with no dict -/
def tTupF (t : TA) : TE := fun σ H Q => t σ H fun xs H1 => xs.length ≤ sizeLine ∧ ∀ p o, o.dict = none → H1 p = none → Q (.ref p) (upd H1 p (.frz o (.tup xs)))
theorem tup_new {ds : List PyData} {vs : List V} {p : Addr} {o : Obj} (W : Wd c T H σ ρ) (a : DzAll c.K (hide (hid c ρ) H) vs ds) (z : o.dict = none) (hp : H p = none) : Wd c ((.ref p, .tuple ds) :: T) (upd H p (.frz o (.tup vs))) σ ρ := by
  have W2 := W.grow (Ex.new (o := .frz o (.tup vs)) hp)
  have e2 : Ex (hide (hid c ρ) H) (hide (hid c ρ) (upd H p (.frz o (.tup vs)))) := hide_mono fun a o n h => ⟨n, Ex.new hp a o h⟩
  exact W2.push (.tup (pt_of (hide_of (W.fresh hp) upd_same) z) (dpam e2 a))
theorem ed_tup {ts : TA} {ds : List PyData} (h : Ea c ρ ts (ds.map .dat) ρ1) (hl : Nat.ble ds.length 100000 = true := by rfl) : Ed c ρ (tTupF ts) (.tuple ds) ρ1 := fun T σ H W Q q => h T σ H W _ fun vs H1 a W1 => ⟨dpa_sz (aa_dats a) (Nat.le_of_ble_eq_true hl), fun p o z hp =>
  q _ _ (tup_new W1 (aa_dats a) z hp)⟩
theorem el_new {ds : List PyData} {vs : List V} {p : Addr} (W : Wd c T H σ ρ) (a : DzAll c.K (hide (hid c ρ) H) vs ds) (hp : H p = none) :
    c.B p = none ∧ p ∉ hid c ρ ∧ MoOk c.K (p :: hid c ρ) (upd H p (.lst vs)) p (.lst ds) ∧ Wd (c.hidden p) T (upd H p (.lst vs)) σ ρ := by
  have e2 : Ex (hide (hid c ρ) H) (hide (p :: hid c ρ) (upd H p (.lst vs))) := hide_mono fun b u m e => ⟨fun q => by
    rcases List.mem_cons.mp q with q | q
    · rw [q, hp] at e; cases e
    · exact m q, Ex.new hp b u e⟩
  exact ⟨W.freshB hp, W.fresh hp, ⟨vs, upd_same, dpam e2 a⟩, W.hideNew hp⟩
theorem el_lst {ts : TA} {ds : List PyData} (h : Ea c ρ ts (ds.map .dat) ρ1) (hl : Nat.ble ds.length 100000 = true := by rfl) : EdL c ρ (tLst ts) ds ρ1 := fun T σ H W Q q => h T σ H W _ fun vs H1 a W1 => ⟨dpa_sz (aa_dats a) (Nat.le_of_ble_eq_true hl), fun p hp => by
  obtain ⟨x1, x2, x3, x4⟩ := el_new W1 (aa_dats a) hp
  exact q p _ x1 x2 x3 x4⟩
/-! #### subscripts, slices -/
theorem atI_dp {K : PySem.W.Frag} {ds : List PyData} {xs : List V} {i : Int} (h : DzAll K H xs ds) (e : atI ds i = some d) : ∃ v, atI xs i = some v ∧ Dz K H v d := by
  unfold atI at e ⊢
  rw [dpa_length h]
  cases q : ixN ds.length i with
  | none => rw [q] at e; cases e
  | some j =>
    rw [q] at e
    exact dpa_get h e
theorem ed_ixT {i : Int} {ds : List PyData} (ha : Ed c ρ ta (.tuple ds) ρ1) (hb : Ed c ρ1 tb (.int i) ρ2) (e : atI ds i = some d) : Ed c ρ (tOp (rIxT c.K) ta tb) d ρ2 :=
  ed_op ha hb fun T σ H x y W hx hy Q q => by
    obtain ⟨a, xs, rfl, hs, h2⟩ := dp_tup hx
    obtain ⟨v, h3, h4⟩ := atI_dp h2 e
    exact ⟨a, xs, i, v, rfl, dp_int hy, (ex_p (hide_ex _ _) hs).sq, h3, q _ H (W.push h4)⟩
theorem ed_ixL {i : Int} {ds : List PyData} (ha : Ed c ρ ta (.list ds) ρ1) (hb : Ed c ρ1 tb (.int i) ρ2) (e : atI ds i = some d) : Ed c ρ (tOp (rIxL c.K) ta tb) d ρ2 :=
  ed_op ha hb fun T σ H x y W hx hy Q q => by
    obtain ⟨a, xs, rfl, hs, h2⟩ := dp_lst hx
    obtain ⟨v, h3, h4⟩ := atI_dp h2 e
    exact ⟨a, xs, i, v, rfl, dp_int hy, ex_l (hide_ex _ _) hs, h3, q _ H (W.push h4)⟩
/-- of a list that may change -/
theorem ed_ixM {i : Int} {ds : List PyData} {j : Nat} {l : Bool} {a : Addr} (hb : Ed c ρ tb (.int i) ρ1) (ha : ρ1[j]? = some (.mu l a (.lst ds))) (ha0 : ∃ l o, ρ[j]? = some (.mu l a o)) (e : atI ds i = some d) : Ed c ρ (tOp (rIxL c.K) (tVar j) tb) d ρ1 := fun T σ H W Q q => by
  obtain ⟨l0, o0, h0⟩ := ha0
  refine ⟨.ref a, (W.ok j _ h0).1, hb T σ H W _ fun v H1 W1 => ?_⟩
  obtain ⟨_, _, xs, h1, h2⟩ := W1.ok j _ ha
  obtain ⟨w, h3, h4⟩ := atI_dp h2 e
  exact ⟨a, xs, i, w, rfl, dp_int W1.dp, sq_of h1, h3, q _ H1 (W1.pop.push h4)⟩
theorem eo_no : Eo c ρ tNoPart none ρ := fun T σ H W Q q => q H W
theorem eo_some {i : Int} (h : Ed c ρ te (.int i) ρ1) : Eo c ρ (tPart te) (some i) ρ1 := fun T σ H W Q q => h T σ H W _ fun v H1 W1 => ⟨i, dp_int W1.dp, q H1 W1.pop⟩
def cutD (ds : List PyData) (lo hi : Option Int) : List PyData := (ds.drop (HT.sIx ds.length 0 lo)).take (HT.sIx ds.length ds.length hi - HT.sIx ds.length 0 lo)
theorem cut_dp {K : PySem.W.Frag} {ds : List PyData} {xs : List V} (h : DzAll K H xs ds) (lo hi : Option Int) : DzAll K H (cutV xs lo hi) (cutD ds lo hi) := by
  unfold cutV cutD
  rw [dpa_length h]
  exact dpa_take _ (dpa_drop _ h)
theorem el_slice {ds : List PyData} {tl th : TO} {lo hi : Option Int} (ha : Ed c ρ ta (.list ds) ρ1) (hl : Eo c ρ1 tl lo ρ2) (hh : Eo c ρ2 th hi ρ3) : EdL c ρ (tSl (rSlL c.K) ta tl th) (cutD ds lo hi) ρ3 := fun T σ H W Q q =>
  ha T σ H W _ fun v H1 W1 => hl _ σ H1 W1 _ fun H2 W2 => hh _ σ H2 W2 _ fun H3 W3 => by
    obtain ⟨a, xs, rfl, hs, h2⟩ := dp_lst W3.dp
    refine ⟨a, xs, rfl, ex_l (hide_ex _ _) hs, fun p hp => ?_⟩
    obtain ⟨x1, x2, x3, x4⟩ := el_new W3.pop (cut_dp h2 lo hi) hp
    exact q p _ x1 x2 x3 x4
/-! #### tests -/
theorem et_test {b : Bool} (h : Ed c ρ te (.bool b) ρ1) : Et c ρ (tTest te) b ρ1 := fun T σ H W Q q => h T σ H W _ fun v H1 W1 => ⟨b, dp_bl W1.dp, q H1 W1.pop⟩
theorem et_B {b : Bool} (h : Ed c ρ te (.bool b) ρ1) : Et c ρ (tB te) b ρ1 := fun T σ H W Q q => h T σ H W _ fun v H1 W1 => ⟨b, dp_bl W1.dp, q H1 W1.pop⟩
def truD : PyData → Bool
  | .none => false
  | .bool b => b
  | .int i => i != 0
  | .list ds => !ds.isEmpty
  | .tuple ds => !ds.isEmpty
  | _ => false
def truOk : PyData → Bool
  | .str _ => false
  | .dict _ => false
  | _ => true
theorem isEmpty_dp {K : PySem.W.Frag} {ds : List PyData} {xs : List V} (h : DzAll K H xs ds) : xs.isEmpty = ds.isEmpty := by cases h <;> rfl
theorem tru_dp {K : PySem.W.Frag} {v : V} (h : Dz K H v d) (ok : truOk d = true) : TruV K v H (truD d) := by
  cases h with
  | non => rfl
  | bl b => rfl
  | int i => rfl
  | str x => cases ok
  | lst hs ha => exact .inl ⟨_, hs, by rw [isEmpty_dp ha]; rfl⟩
  | tup hs ha => exact .inr (.inl ⟨_, hs.sq, by rw [isEmpty_dp ha]; rfl⟩)
theorem et_tru (h : Ed c ρ te d ρ1) (ok : truOk d = true := by rfl) : Et c ρ (fun σ H Q => te σ H fun x H' => ∃ k, TruV c.K x H' k ∧ Q k H') (truD d) ρ1 := fun T σ H W Q q => h T σ H W _ fun v H1 W1 => ⟨_, tru_dp (dpm (hide_ex _ _) W1.dp) ok, q H1 W1.pop⟩
theorem et_and {a b : Bool} (h1 : Et c ρ t a ρ1) (h2 : a = true → Et c ρ1 u b ρ1) : Et c ρ (tAnd t u) (a && b) ρ1 := fun T σ H W Q q => h1 T σ H W _ fun H1 W1 => by
  cases a with
  | true => exact h2 rfl T σ H1 W1 Q q
  | false => exact q H1 W1
theorem et_or {a b : Bool} (h1 : Et c ρ t a ρ1) (h2 : a = false → Et c ρ1 u b ρ1) : Et c ρ (tOr t u) (a || b) ρ1 := fun T σ H W Q q => h1 T σ H W _ fun H1 W1 => by
  cases a with
  | true => exact q H1 W1
  | false => exact h2 rfl T σ H1 W1 Q q
theorem et_not {a : Bool} (h1 : Et c ρ t a ρ1) : Et c ρ (tNot t) (!a) ρ1 := fun T σ H W Q q => h1 T σ H W _ fun H1 W1 => q H1 W1
theorem ed_and {a b : Bool} (h1 : Ed c ρ ta (.bool a) ρ1) (h2 : a = true → Ed c ρ1 tb (.bool b) ρ1) : Ed c ρ (tAndV ta tb) (.bool (a && b)) ρ1 := fun T σ H W Q q => h1 T σ H W _ fun v H1 W1 => ⟨a, dp_bl W1.dp, by
  cases a with
  | true => exact h2 rfl T σ H1 W1.pop Q q
  | false => exact q _ H1 (W1.pop.push (.bl _))⟩
theorem ed_or {a b : Bool} (h1 : Ed c ρ ta (.bool a) ρ1) (h2 : a = false → Ed c ρ1 tb (.bool b) ρ1) : Ed c ρ (tOrV ta tb) (.bool (a || b)) ρ1 := fun T σ H W Q q => h1 T σ H W _ fun v H1 W1 => ⟨a, dp_bl W1.dp, by
  cases a with
  | true => exact q _ H1 (W1.pop.push (.bl _))
  | false => exact h2 rfl T σ H1 W1.pop Q q⟩
theorem ed_not {a : Bool} (h1 : Ed c ρ ta (.bool a) ρ1) : Ed c ρ (tNotV ta) (.bool (!a)) ρ1 := fun T σ H W Q q => h1 T σ H W _ fun v H1 W1 => ⟨a, dp_bl W1.dp, q _ H1 (W1.pop.push (.bl _))⟩
theorem ed_if {b : Bool} (h : Et c ρ t b ρ1) (h1 : b = true → Ed c ρ1 ta d ρ2) (h2 : b = false → Ed c ρ1 tb d ρ2) : Ed c ρ (tIf t ta tb) d ρ2 := fun T σ H W Q q => h T σ H W _ fun H1 W1 => by
  cases b with
  | true => exact h1 rfl T σ H1 W1 Q q
  | false => exact h2 rfl T σ H1 W1 Q q
/-- a op b op c of ints -/
theorem ed_chain {f g : Int → Int → Bool} {i j k : Int} {tc : TE} (ha : Ed c ρ ta (.int i) ρ1) (hb : Ed c ρ1 tb (.int j) ρ2) (hc : f i j = true → Ed c ρ2 tc (.int k) ρ2) :
    Ed c ρ (tChain (rI0 fun i j => .bl (f i j)) (rI0 fun i j => .bl (g i j)) ta tb tc) (.bool (f i j && g j k)) ρ2 := fun T σ H W Q q => ha T σ H W _ fun v H1 W1 => hb _ σ H1 W1 _ fun w H2 W2 =>
  ⟨i, j, dp_int W2.pop.dp, dp_int W2.dp, f i j, rfl, by
    cases e : f i j with
    | true =>
      refine hc e _ σ H2 W2 _ fun z H3 W3 => ⟨j, k, dp_int W3.pop.dp, dp_int W3.dp, ?_⟩
      rw [e, Bool.true_and] at q
      exact q _ H3 (W3.pop.pop.pop.push (.bl _))
    | false =>
      rw [e, Bool.false_and] at q
      exact q _ H2 (W2.pop.pop.push (.bl _))⟩
/-! #### calls -/
/-- a pure def's promise: from data to data, by R -/
def SpP (K : PySem.W.Frag) (R : List PyData → PyData → Prop) : Sp := fun vs H Q _ => ∃ (S : List Addr) (ds : List PyData) (d : PyData), (∀ a ∈ S, ∃ o, H a = some o) ∧ DzAll K (hide S H) vs ds ∧ R ds d ∧
  ∀ v H', Ex H H' → Dz K (hide S H') v d → Q v H'
theorem ed_call {R : List PyData → PyData → Prop} {ts : TA} {ds : List PyData} {E : XK} (h : Ea c ρ ts (ds.map .dat) ρ1) (hR : R ds d) : Ed c ρ (tCall (SpP c.K R) [] E ts) d ρ1 := fun T σ H W Q q => h T σ H W _ fun vs H1 a W1 => by
  rw [List.append_nil]
  exact ⟨hid c ρ1, ds, d, fun a h => W1.there h, aa_dats a, hR, fun v H' e dp => q v H' ((W1.grow e).push dp)⟩
/-- a def's promise that changes its first argument -/
def SpS (K : PySem.W.Frag) (R : MO → List PyData → MO → PyData → Prop) : Sp := fun vs H Q _ => ∃ (S : List Addr) (a : Addr) (st st' : MO) (vs' : List V) (ds : List PyData) (d : PyData), vs = .ref a :: vs' ∧ a ∈ S ∧ (∀ b ∈ S, ∃ o, H b = some o) ∧
  MoOk K S H a st ∧ DzAll K (hide S H) vs' ds ∧ R st ds st' d ∧ ∀ v H', (∀ b o, b ≠ a → H b = some o → H' b = some o) → MoOk K S H' a st' → Dz K (hide S H') v d → Q v H'
theorem ed_callS {R : MO → List PyData → MO → PyData → Prop} {ts : TA} {ds : List PyData} {E : XK} {i : Nat} {l : Bool} {a : Addr} {st st' : MO} (h : Ea c ρ ts (.raw (.ref a) :: ds.map .dat) ρ1) (hi : ρ1[i]? = some (.mu l a st)) (hR : R st ds st' d) :
    Ed c ρ (tCall (SpS c.K R) [] E ts) d (ρ1.set i (.mu l a st')) := fun T σ H W Q q => h T σ H W _ fun vs H1 aa W1 => by
  rw [List.append_nil]
  cases aa with
  | raw aa =>
    have hm : a ∈ hid c ρ1 := List.mem_append_right _ (mem_muts.mpr ⟨i, l, st, hi⟩)
    refine ⟨hid c ρ1, a, st, st', _, ds, d, rfl, hm, fun a h => W1.there h, (W1.ok i _ hi).2.2, aa_dats aa, hR, fun v H' hk mo dp => q v H' ((W1.chg hi hk mo).push ?_)⟩
    refine dpm (hide_mono fun b o n e => ⟨fun m => n ?_, e⟩) dp
    rcases List.mem_append.mp m with m | m
    · exact List.mem_append_left _ m
    · obtain ⟨j, m', u, e⟩ := mem_muts.mp m
      rcases get_set e with ⟨_, _, e⟩ | ⟨_, e⟩
      · cases e; exact hm
      · exact List.mem_append_right _ (mem_muts.mpr ⟨j, m', u, e⟩)
/-! #### built-ins -/
theorem ed_cb {r : List V → Hp → VK → Prop} {ts : TA} {as : List Ar} (h : Ea c ρ ts as ρ1)
    (hr : ∀ (T : Tm) (σ : L2.St) (H : Hp) (vs : List V), Wd c T H σ ρ1 → AA c.K (hide (hid c ρ1) H) vs as → ∀ Q : VK, (∀ v H', Wd c ((v, d) :: T) H' σ ρ1 → Q v H') → r vs H Q) : Ed c ρ (tCB r ts) d ρ1 :=
  fun T σ H W Q q => h T σ H W _ fun vs H1 a W1 => hr T σ H1 vs W1 a Q q
theorem aa1 {K : PySem.W.Frag} {vs : List V} (a : AA K H vs [.dat d]) : ∃ v, vs = [v] ∧ Dz K H v d := by
  cases a with
  | dat h t => cases t; exact ⟨_, rfl, h⟩
theorem aa2 {K : PySem.W.Frag} {vs : List V} (a : AA K H vs [.dat d, .dat d1]) : ∃ v w, vs = [v, w] ∧ Dz K H v d ∧ Dz K H w d1 := by
  cases a with
  | dat h t =>
    obtain ⟨w, rfl, h2⟩ := aa1 t
    exact ⟨_, w, rfl, h, h2⟩
def rLenS (K : PySem.W.Frag) : List V → Hp → VK → Prop := fun xs H Q => ∃ p ys, xs = [.ref p] ∧ (SqL K H p ys ∨ SqT K H p ys) ∧ Q (.int ys.length) H
theorem ed_lenT {ds : List PyData} (h : Ed c ρ te (.tuple ds) ρ1) : Ed c ρ (tCB (rLenS c.K) (tCons te tNil)) (.int (ds.length : Int)) ρ1 := fun T σ H W Q q => h T σ H W _ fun v H1 W1 => by
  obtain ⟨a, xs, rfl, hs, h2⟩ := dp_tup W1.dp
  refine ⟨a, xs, rfl, .inr (ex_p (hide_ex _ _) hs).sq, ?_⟩
  rw [dpa_length h2]
  exact q _ H1 (W1.pop.push (.int _))
theorem ed_lenL {ds : List PyData} (h : Ed c ρ te (.list ds) ρ1) : Ed c ρ (tCB (rLenS c.K) (tCons te tNil)) (.int (ds.length : Int)) ρ1 := fun T σ H W Q q => h T σ H W _ fun v H1 W1 => by
  obtain ⟨a, xs, rfl, hs, h2⟩ := dp_lst W1.dp
  refine ⟨a, xs, rfl, .inl (ex_l (hide_ex _ _) hs), ?_⟩
  rw [dpa_length h2]
  exact q _ H1 (W1.pop.push (.int _))
theorem ed_lenM {ds : List PyData} {j : Nat} {l : Bool} {a : Addr} (ha : ρ[j]? = some (.mu l a (.lst ds))) : Ed c ρ (tCB (rLenS c.K) (tCons (tVar j) tNil)) (.int (ds.length : Int)) ρ := fun T σ H W Q q => by
  obtain ⟨h0, _, xs, h1, h2⟩ := W.ok j _ ha
  refine ⟨.ref a, h0, a, xs, rfl, .inl (sq_of h1), ?_⟩
  rw [dpa_length h2]
  exact q _ H (W.push (.int _))
theorem ed_abs {i : Int} (h : Ed c ρ te (.int i) ρ1) : Ed c ρ (tCB (fun xs H Q => ∃ i, xs = [.int i] ∧ Q (.int (if i < 0 then -i else i)) H) (tCons te tNil)) (.int (i.natAbs : Int)) ρ1 := fun T σ H W Q q => h T σ H W _ fun v H1 W1 => by
  refine ⟨i, by rw [dp_int W1.dp], ?_⟩
  have e : (if i < 0 then -i else i) = (i.natAbs : Int) := by split <;> omega
  rw [e]
  exact q _ H1 (W1.pop.push (.int _))
theorem ed_intI {i : Int} (h : Ed c ρ te (.int i) ρ1) : Ed c ρ (tCB (fun xs H Q => (∃ i, xs = [.int i] ∧ Q (.int i) H) ∨ ∃ k, xs = [.bl k] ∧ Q (.int (if k then 1 else 0)) H) (tCons te tNil)) (.int i) ρ1 := fun T σ H W Q q => h T σ H W _ fun v H1 W1 =>
  .inl ⟨i, by rw [dp_int W1.dp], q _ H1 (W1.pop.push (.int _))⟩
theorem ed_intB {b : Bool} (h : Ed c ρ te (.bool b) ρ1) : Ed c ρ (tCB (fun xs H Q => (∃ i, xs = [.int i] ∧ Q (.int i) H) ∨ ∃ k, xs = [.bl k] ∧ Q (.int (if k then 1 else 0)) H) (tCons te tNil)) (.int (if b then 1 else 0)) ρ1 := fun T σ H W Q q => h T σ H W _ fun v H1 W1 =>
  .inr ⟨b, by rw [dp_bl W1.dp], q _ H1 (W1.pop.push (.int _))⟩
theorem el_listOf {te : TE} {ds : List PyData} (h : Ed c ρ te (.list ds) ρ1 ∨ Ed c ρ te (.tuple ds) ρ1) :
    EdL c ρ (tCB (fun xs H Q => ∃ p ys, xs = [.ref p] ∧ (SqL c.K H p ys ∨ SqT c.K H p ys) ∧ ∀ l, H l = none → Q (.ref l) (upd H l (.lst ys))) (tCons te tNil)) ds ρ1 := fun T σ H W Q q => by
  rcases h with h | h
  · refine h T σ H W _ fun v H1 W1 => ?_
    obtain ⟨a, xs, rfl, hs, h2⟩ := dp_lst W1.dp
    refine ⟨a, xs, rfl, .inl (ex_l (hide_ex _ _) hs), fun p hp => ?_⟩
    obtain ⟨x1, x2, x3, x4⟩ := el_new W1.pop h2 hp
    exact q p _ x1 x2 x3 x4
  · refine h T σ H W _ fun v H1 W1 => ?_
    obtain ⟨a, xs, rfl, hs, h2⟩ := dp_tup W1.dp
    refine ⟨a, xs, rfl, .inr (ex_p (hide_ex _ _) hs).sq, fun p hp => ?_⟩
    obtain ⟨x1, x2, x3, x4⟩ := el_new W1.pop h2 hp
    exact q p _ x1 x2 x3 x4
/-- tuple(..) of a list: a new one; of a tuple: itself -/
def rTupOf (K : PySem.W.Frag) : List V → Hp → VK → Prop := fun xs H Q => ∃ p ys, xs = [.ref p] ∧ ((SqL K H p ys ∧ ∀ l o, o.dict = none → H l = none → Q (.ref l) (upd H l (.frz o (.tup ys)))) ∨ (SqT K H p ys ∧ Q (.ref p) H))
theorem ed_tupleL {ds : List PyData} (h : Ed c ρ te (.list ds) ρ1) : Ed c ρ (tCB (rTupOf c.K) (tCons te tNil)) (.tuple ds) ρ1 := fun T σ H W Q q =>
  h T σ H W _ fun v H1 W1 => by
    obtain ⟨a, xs, rfl, hs, h2⟩ := dp_lst W1.dp
    exact ⟨a, xs, rfl, .inl ⟨ex_l (hide_ex _ _) hs, fun p o z hp => q _ _ (tup_new W1.pop h2 z hp)⟩⟩
theorem ed_tupleT {ds : List PyData} (h : Ed c ρ te (.tuple ds) ρ1) : Ed c ρ (tCB (rTupOf c.K) (tCons te tNil)) (.tuple ds) ρ1 := fun T σ H W Q q =>
  h T σ H W _ fun v H1 W1 => by
    obtain ⟨a, xs, rfl, hs, h2⟩ := dp_tup W1.dp
    exact ⟨a, xs, rfl, .inr ⟨(ex_p (hide_ex _ _) hs).sq, q _ _ W1⟩⟩
end
end Nz

namespace Nz
open PySem PySem.Spec PyProof.Rows L2 RZ

/-! ### what is walked -/
/-- an item that comes: data; a pair that was just made, of data (to be unpacked at once) -/
inductive Itm where
  | hard (d : PyData)
  | soft (ds : List PyData)
def YOk (c : Cz) (T : Tm) (H : Hp) (σ : L2.St) (ρ : List Sl) (x : V) : Itm → Prop
  | .hard d => Wd c ((x, d) :: T) H σ ρ
  | .soft ds => ∃ a xs, x = .ref a ∧ SqT c.K H a xs ∧ xs.length = ds.length ∧ Wd c (xs.zip ds ++ T) H σ ρ
def Walks (K : PySem.W.Frag) (J : It) (T1 : Tm) (ds : List Itm) : Prop := ∀ (c : Cz) (T : Tm) (σ : L2.St) (H : Hp) (ρ : List Sl), c.K = K → Wd c (T1 ++ T) H σ ρ →
  (∀ i, i < ds.length → J.go i H ∧ ∀ x H', J.yld i H x H' → ∃ d, ds[i]? = some d ∧ YOk c (T1 ++ T) H' σ ρ x d) ∧ ∀ i, ds.length ≤ i → J.stop i H
def Ei (c : Cz) (ρ : List Sl) (wi : TI) (ds : List Itm) (ρ' : List Sl) : Prop := ∀ (T : Tm) (σ : L2.St) (H : Hp), Wd c T H σ ρ → ∀ R : It → Hp → Prop, (∀ J H' T1, Wd c (T1 ++ T) H' σ ρ' → Walks c.K J T1 ds → R J H') → wi σ H R
/-- a target takes an item; ws: the slots that it may store -/
def Eg (c : Cz) (g : TG) (d : Itm) (ρ ρ' : List Sl) (ws : List Nat) : Prop := ∀ (T : Tm) (σ : L2.St) (H : Hp) (v : V), YOk c T H σ ρ v d → ∀ Q : L2.St → Hp → Prop, (∀ σ' H', Wd c T H' σ' ρ' → L2.wipe σ' ws = L2.wipe σ ws → Q σ' H') → g v σ H Q

section
variable {c : Cz} {ρ ρ1 ρ2 ρ3 : List Sl} {ta tb te tx : TE} {t u : TT} {d d1 d2 d3 : PyData} {T : Tm} {H H' : Hp} {σ : L2.St}
abbrev hards (ds : List PyData) : List Itm := ds.map .hard
theorem hards_get {ds : List PyData} {i : Nat} (h : i < ds.length) : (hards ds)[i]? = some (.hard ds[i]) := by rw [List.getElem?_map, List.getElem?_eq_getElem h]; rfl
theorem ei_list {ds : List PyData} (h : Ed c ρ te (.list ds) ρ1) : Ei c ρ (iList c.K te) (hards ds) ρ1 := fun T σ H W R q => h T σ H W _ fun v H1 W1 => by
  obtain ⟨a, xs, rfl, hs, h2⟩ := dp_lst W1.dp
  refine ⟨a, rfl, ⟨xs, ex_l (hide_ex _ _) hs⟩, q _ H1 [(.ref a, .list ds)] W1 ?_⟩
  rintro c' T' σ' H' ρ' hK W'
  obtain ⟨b, ys, e, hs', h2'⟩ := dp_lst W'.dp
  cases e
  have hs2 : SqL c.K H' a ys := hK ▸ ex_l (hide_ex _ _) hs'
  have hl := dpa_length h2'
  rw [List.length_map]
  refine ⟨fun i hi => ?_, fun i hi => ⟨ys, hs2, by omega⟩⟩
  obtain ⟨x, hx, dx⟩ := dpa_get h2' (List.getElem?_eq_getElem hi)
  refine ⟨⟨ys, x, hs2, hx⟩, fun y H2 hy => ?_⟩
  obtain ⟨rfl, hy⟩ := hy
  have := (hy ys hs2).symm.trans hx
  cases this
  exact ⟨_, hards_get hi, W'.push dx⟩
theorem ei_tup {ds : List PyData} (h : Ed c ρ te (.tuple ds) ρ1) : Ei c ρ (iTup c.K te) (hards ds) ρ1 := fun T σ H W R q => h T σ H W _ fun v H1 W1 => by
  obtain ⟨a, xs, rfl, hs, h2⟩ := dp_tup W1.dp
  refine ⟨a, rfl, ⟨xs, (ex_p (hide_ex _ _) hs).sq⟩, q _ H1 [(.ref a, .tuple ds)] W1 ?_⟩
  rintro c' T' σ' H' ρ' hK W'
  obtain ⟨b, ys, e, hs', h2'⟩ := dp_tup W'.dp
  cases e
  have hs2 : SqT c.K H' a ys := hK ▸ (ex_p (hide_ex _ _) hs').sq
  have hl := dpa_length h2'
  rw [List.length_map]
  refine ⟨fun i hi => ?_, fun i hi => ⟨ys, hs2, by omega⟩⟩
  obtain ⟨x, hx, dx⟩ := dpa_get h2' (List.getElem?_eq_getElem hi)
  refine ⟨⟨ys, x, hs2, hx⟩, fun y H2 hy => ?_⟩
  obtain ⟨rfl, hy⟩ := hy
  have := (hy ys hs2).symm.trans hx
  cases this
  exact ⟨_, hards_get hi, W'.push dx⟩
/-- lo, lo + 1, .. -/
def rngD (lo : Int) (n : Nat) : List PyData := (List.range n).map fun (i : Nat) => PyData.int (lo + (i : Int))
theorem rngD_len (lo : Int) (n : Nat) : (rngD lo n).length = n := by unfold rngD; rw [List.length_map, List.length_range]
theorem rngD_get {lo : Int} {n i : Nat} (h : i < n) : (rngD lo n)[i]? = some (.int (lo + (i : Int))) := by
  unfold rngD; rw [List.getElem?_map, List.getElem?_range h]; rfl
theorem walks_rng (K : PySem.W.Frag) (lo : Int) (n : Nat) : Walks K (Itr lo n) [] (hards (rngD lo n)) := fun c T σ H ρ hK W => by
  rw [List.length_map, rngD_len]
  refine ⟨fun i hi => ⟨hi, fun x H' hy => ?_⟩, fun i hi => hi⟩
  obtain ⟨rfl, rfl⟩ := hy
  exact ⟨.hard (.int (lo + (i : Int))), by rw [List.getElem?_map, rngD_get hi]; rfl, W.push (.int _)⟩
theorem ei_rng1 {n : Int} (h : Ed c ρ te (.int n) ρ1) (hn : -4000000000 ≤ n ∧ n ≤ 4000000000) : Ei c ρ (iRng1 (tCons te tNil)) (hards (rngD 0 n.toNat)) ρ1 := fun T σ H W R q => h T σ H W _ fun v H1 W1 =>
  ⟨n, by rw [dp_int W1.dp], by omega, by omega, q _ H1 [] W1.pop (walks_rng _ _ _)⟩
theorem ei_rng2 {lo n : Int} (h : Ed c ρ te (.int lo) ρ1) (h2 : Ed c ρ1 tb (.int n) ρ2) (hn : (-4000000000 ≤ lo ∧ lo ≤ 4000000000) ∧ -4000000000 ≤ n ∧ n ≤ 4000000000) : Ei c ρ (iRng2 (tCons te (tCons tb tNil))) (hards (rngD lo (n - lo).toNat)) ρ2 := fun T σ H W R q => h T σ H W _ fun v H1 W1 => h2 _ σ H1 W1 _ fun w H2 W2 =>
  ⟨lo, n, by rw [dp_int W2.pop.dp, dp_int W2.dp], ⟨by omega, by omega, by omega, by omega⟩, q _ H2 [] W2.pop.pop (walks_rng _ _ _)⟩
/-- pairs of place and item -/
def enumD (ds : List PyData) : List Itm := (ds.zipIdx).map fun p => .soft [.int (p.2 : Int), p.1]
theorem enumD_len (ds : List PyData) : (enumD ds).length = ds.length := by unfold enumD; rw [List.length_map, List.length_zipIdx]
theorem enumD_get {ds : List PyData} {i : Nat} {d : PyData} (h : ds[i]? = some d) : (enumD ds)[i]? = some (.soft [.int (i : Int), d]) := by
  unfold enumD; rw [List.getElem?_map, List.getElem?_zipIdx, h]; simp
theorem ei_enum {ds : List PyData} (h : Ed c ρ te (.list ds) ρ1) : Ei c ρ (iEnum c.K (tCons te tNil)) (enumD ds) ρ1 := fun T σ H W R q => h T σ H W _ fun v H1 W1 => by
  obtain ⟨a, xs, rfl, hs, h2⟩ := dp_lst W1.dp
  refine ⟨a, xs, rfl, ex_l (hide_ex _ _) hs, q _ H1 [(.ref a, .list ds)] W1 ?_⟩
  rintro c' T' σ' H' ρ' hK W'
  obtain ⟨b, ys, e, hs', h2'⟩ := dp_lst W'.dp
  cases e
  have hs2 : SqL c.K H' a ys := hK ▸ ex_l (hide_ex _ _) hs'
  have hl := dpa_length h2'
  rw [enumD_len]
  refine ⟨fun i hi => ?_, fun i hi => ⟨ys, hs2, by omega⟩⟩
  obtain ⟨x, hx, dx⟩ := dpa_get h2' (List.getElem?_eq_getElem hi)
  refine ⟨⟨ys, x, hs2, hx⟩, fun y H2 hy => ?_⟩
  obtain ⟨p, z, rfl, hp, rfl, hy⟩ := hy
  have ez := (hy ys hs2).symm.trans hx
  rw [Option.some.inj ez]
  have W2 := W'.grow (Ex.new (o := .tup [.int (i : Nat), x]) hp)
  have e2 : Ex (hide (hid c' ρ') H') (hide (hid c' ρ') (upd H' p (.tup [.int (i : Nat), x]))) := hide_mono fun a o n h => ⟨n, Ex.new hp a o h⟩
  exact ⟨_, enumD_get (List.getElem?_eq_getElem hi), p, [.int (i : Nat), x], rfl, .inl (.inl upd_same), rfl, (W2.push (dpm e2 dx)).push (.int _)⟩
def zipD (ds es : List PyData) : List Itm := List.zipWith (fun d e => .soft [d, e]) ds es
theorem zipD_len (ds es : List PyData) : (zipD ds es).length = min ds.length es.length := by unfold zipD; rw [List.length_zipWith]
theorem zipD_get {ds es : List PyData} {i : Nat} {d e : PyData} (h : ds[i]? = some d) (h2 : es[i]? = some e) : (zipD ds es)[i]? = some (.soft [d, e]) := by
  unfold zipD; rw [List.getElem?_zipWith, h, h2]
theorem walks_zip {K : PySem.W.Frag} {a b : Addr} {ds es : List PyData} : Walks K (Itz K a b) [(.ref b, .list es), (.ref a, .list ds)] (zipD ds es) := fun c' T' σ' H' ρ' hK W' => by
  obtain ⟨b', zs, e, hz, h3⟩ := dp_lst W'.dp
  cases e
  obtain ⟨a', ys, e, hs', h2'⟩ := dp_lst W'.pop.dp
  cases e
  have hs2 : SqL K H' a ys := hK ▸ ex_l (hide_ex _ _) hs'
  have hz2 : SqL K H' b zs := hK ▸ ex_l (hide_ex _ _) hz
  have hl := dpa_length h2'
  have hl3 := dpa_length h3
  rw [zipD_len]
  refine ⟨fun i hi => ?_, fun i hi => ⟨ys, zs, hs2, hz2, by omega⟩⟩
  obtain ⟨x, hx, dx⟩ := dpa_get h2' (List.getElem?_eq_getElem (show i < ds.length by omega))
  obtain ⟨y, hy, dy⟩ := dpa_get h3 (List.getElem?_eq_getElem (show i < es.length by omega))
  refine ⟨⟨ys, zs, x, y, hs2, hz2, hx, hy⟩, fun v H2 hv => ?_⟩
  obtain ⟨p, x', y', rfl, hp, rfl, q1, q2⟩ := hv
  have e1 := (q1 ys hs2).symm.trans hx
  have e2' := (q2 zs hz2).symm.trans hy
  rw [Option.some.inj e1, Option.some.inj e2']
  have W2 := W'.grow (Ex.new (o := .tup [x, y]) hp)
  have e2 : Ex (hide (hid c' ρ') H') (hide (hid c' ρ') (upd H' p (.tup [x, y]))) := hide_mono fun a o n h => ⟨n, Ex.new hp a o h⟩
  exact ⟨_, zipD_get (List.getElem?_eq_getElem (show i < ds.length by omega)) (List.getElem?_eq_getElem (show i < es.length by omega)), p, [x, y], rfl, .inl (.inl upd_same), rfl, (W2.push (dpm e2 dy)).push (dpm e2 dx)⟩
theorem walks_zipT {K : PySem.W.Frag} {a b : Addr} {ds es : List PyData} : Walks K (ItzT K a b) [(.ref b, .tuple es), (.ref a, .tuple ds)] (zipD ds es) := fun c' T' σ' H' ρ' hK W' => by
  obtain ⟨b', zs, e, hz, h3⟩ := dp_tup W'.dp
  cases e
  obtain ⟨a', ys, e, hs', h2'⟩ := dp_tup W'.pop.dp
  cases e
  have hs2 : SqT K H' a ys := hK ▸ (ex_p (hide_ex _ _) hs').sq
  have hz2 : SqT K H' b zs := hK ▸ (ex_p (hide_ex _ _) hz).sq
  have hl := dpa_length h2'
  have hl3 := dpa_length h3
  rw [zipD_len]
  refine ⟨fun i hi => ?_, fun i hi => ⟨ys, zs, hs2, hz2, by omega⟩⟩
  obtain ⟨x, hx, dx⟩ := dpa_get h2' (List.getElem?_eq_getElem (show i < ds.length by omega))
  obtain ⟨y, hy, dy⟩ := dpa_get h3 (List.getElem?_eq_getElem (show i < es.length by omega))
  refine ⟨⟨ys, zs, x, y, hs2, hz2, hx, hy⟩, fun v H2 hv => ?_⟩
  obtain ⟨p, x', y', rfl, hp, rfl, q1, q2⟩ := hv
  have e1 := (q1 ys hs2).symm.trans hx
  have e2' := (q2 zs hz2).symm.trans hy
  rw [Option.some.inj e1, Option.some.inj e2']
  have W2 := W'.grow (Ex.new (o := .tup [x, y]) hp)
  have e2 : Ex (hide (hid c' ρ') H') (hide (hid c' ρ') (upd H' p (.tup [x, y]))) := hide_mono fun a o n h => ⟨n, Ex.new hp a o h⟩
  exact ⟨_, zipD_get (List.getElem?_eq_getElem (show i < ds.length by omega)) (List.getElem?_eq_getElem (show i < es.length by omega)), p, [x, y], rfl, .inl (.inl upd_same), rfl, (W2.push (dpm e2 dy)).push (dpm e2 dx)⟩
theorem ei_zip {ds es : List PyData} (h : Ed c ρ te (.list ds) ρ1) (h2 : Ed c ρ1 tb (.list es) ρ2) : Ei c ρ (iZipA c.K (tCons te (tCons tb tNil))) (zipD ds es) ρ2 := fun T σ H W R q => h T σ H W _ fun v H1 W1 => h2 _ σ H1 W1 _ fun w H2 W2 => by
  obtain ⟨a, xs, rfl, hs, ha⟩ := dp_lst W2.pop.dp
  obtain ⟨b, ys, rfl, hs2, hb⟩ := dp_lst W2.dp
  exact ⟨a, b, xs, ys, rfl, .inl ⟨ex_l (hide_ex _ _) hs, ex_l (hide_ex _ _) hs2, q _ H2 [(.ref b, .list es), (.ref a, .list ds)] W2 walks_zip⟩⟩
theorem ei_zipT {ds es : List PyData} (h : Ed c ρ te (.tuple ds) ρ1) (h2 : Ed c ρ1 tb (.tuple es) ρ2) : Ei c ρ (iZipA c.K (tCons te (tCons tb tNil))) (zipD ds es) ρ2 := fun T σ H W R q => h T σ H W _ fun v H1 W1 => h2 _ σ H1 W1 _ fun w H2 W2 => by
  obtain ⟨a, xs, rfl, hs, ha⟩ := dp_tup W2.pop.dp
  obtain ⟨b, ys, rfl, hs2, hb⟩ := dp_tup W2.dp
  exact ⟨a, b, xs, ys, rfl,   .inr ⟨(ex_p (hide_ex _ _) hs).sq, (ex_p (hide_ex _ _) hs2).sq, q _ H2 [(.ref b, .tuple es), (.ref a, .tuple ds)] W2 walks_zipT⟩⟩
/-! ### targets -/
theorem wipe_set {σ : L2.St} {x : Option V} {j : Nat} : ∀ {ws : List Nat}, j ∈ ws → L2.wipe (σ.set j x) ws = L2.wipe σ ws
  | w :: ws, h => by
    show (L2.wipe (σ.set j x) ws).set w none = (L2.wipe σ ws).set w none
    by_cases m : j ∈ ws
    · rw [wipe_set m]
    · have e : j = w := by
        rcases List.mem_cons.mp h with h | h
        · exact h
        · exact absurd h m
      subst e
      apply List.ext_getElem?
      intro k
      by_cases q : j = k
      · subst q
        rw [List.getElem?_set, List.getElem?_set, L2.wipe_length, L2.wipe_length, List.length_set, if_pos rfl, if_pos rfl]
      · rw [List.getElem?_set_ne q, List.getElem?_set_ne q]
        by_cases m2 : k ∈ ws
        · have w0 : ∀ {τ : L2.St} {ws : List Nat}, k ∈ ws → (L2.wipe τ ws)[k]? = (τ.map fun _ => (none : Option V))[k]? := fun {τ ws} hm => by
            induction ws with
            | nil => cases hm
            | cons y ys ih =>
              show ((L2.wipe τ ys).set y none)[k]? = _
              by_cases qq : y = k
              · subst qq
                rw [List.getElem?_set, L2.wipe_length, List.getElem?_map]
                simp
                by_cases hk : y < τ.length
                · simp [hk]
                · simp [hk]
              · rw [List.getElem?_set_ne qq]
                exact ih (by
                  rcases List.mem_cons.mp hm with hm | hm
                  · exact absurd hm.symm qq
                  · exact hm)
          rw [w0 m2, w0 m2, List.getElem?_map, List.getElem?_map, List.getElem?_set_ne q]
        · rw [wipe_get m2, wipe_get m2, List.getElem?_set_ne q]
theorem eg_name {j : Nat} {ws : List Nat} (h : j ∈ ws) : Eg c (gName j) (.hard d) ρ (ρ.set j (.da d)) ws := fun T σ H v W Q q => q _ H (Wd.setD (Wd.pop W) j (Wd.dp W)) (wipe_set h)
/-- several targets -/
def Egs (c : Cz) (g : TGs) (ds : List PyData) (ρ ρ' : List Sl) (ws : List Nat) : Prop := ∀ (T : Tm) (σ : L2.St) (H : Hp) (vs : List V), Wd c T H σ ρ → DzAll c.K (hide (hid c ρ) H) vs ds → ∀ Q : L2.St → Hp → Prop, (∀ σ' H', Wd c T H' σ' ρ' → L2.wipe σ' ws = L2.wipe σ ws → Q σ' H') → g vs σ H Q
theorem egs_nil {ws : List Nat} : Egs c gNil [] ρ ρ ws := fun T σ H vs W a Q q => by
  cases a
  exact ⟨rfl, q σ H W rfl⟩
/-- the values of the rest are kept as temporary data -/
theorem Wd.pushAll {vs : List V} {ds : List PyData} (W : Wd c T H σ ρ) (h : DzAll c.K (hide (hid c ρ) H) vs ds) : Wd c (vs.zip ds ++ T) H σ ρ := by
  induction ds generalizing vs with
  | nil => cases h; exact W
  | cons d ds ih =>
    cases h with
    | cons a b =>
      show Wd c ((_, d) :: (_ ++ T)) H σ ρ
      exact (ih b).push a
theorem Wd.allOf {ds : List PyData} : ∀ {vs : List V}, vs.length = ds.length → Wd c (vs.zip ds ++ T) H σ ρ → DzAll c.K (hide (hid c ρ) H) vs ds := by
  induction ds with
  | nil => intro vs h W; cases vs with
    | nil => exact .nil
    | cons _ _ => simp at h
  | cons d ds ih =>
    intro vs h W
    cases vs with
    | nil => simp at h
    | cons v vs =>
      exact .cons (W.tmp (v, d) (by simp)) (ih (by simpa using h) W.pop)
theorem egs_cons {g : TG} {gs : TGs} {ds : List PyData} {ws : List Nat} (h1 : Eg c g (.hard d) ρ ρ1 ws) (h2 : Egs c gs ds ρ1 ρ2 ws) : Egs c (gCons g gs) (d :: ds) ρ ρ2 ws := fun T σ H vs W a Q q => by
  cases a with
  | cons a1 a2 =>
    refine ⟨_, _, rfl, h1 _ σ H _ ((W.pushAll a2).push a1) _ fun σ1 H1 W1 e1 => ?_⟩
    have a3 := Wd.allOf (dpa_length a2) W1
    exact h2 T σ1 H1 _ (W1.tmps fun p hp => List.mem_append_right _ hp) a3 Q fun σ2 H2 W2 e2 => q σ2 H2 W2 (e2.trans e1)
theorem eg_tup {gs : TGs} {ds : List PyData} {n : Nat} {ws : List Nat} (h : Egs c gs ds ρ ρ1 ws) (hn : ds.length = n := by rfl) : Eg c (gTup c.K n gs) (.hard (.tuple ds)) ρ ρ1 ws := fun T σ H v W Q q => by
  obtain ⟨a, xs, rfl, hs, h2⟩ := dp_tup (Wd.dp W)
  exact ⟨a, xs, rfl, (ex_p (hide_ex _ _) hs).sq, by rw [dpa_length h2, hn], h T σ H xs (Wd.pop W) h2 Q q⟩
theorem eg_soft {gs : TGs} {ds : List PyData} {n : Nat} {ws : List Nat} (h : Egs c gs ds ρ ρ1 ws) (hn : ds.length = n := by rfl) : Eg c (gTup c.K n gs) (.soft ds) ρ ρ1 ws := fun T σ H v W Q q => by
  obtain ⟨a, xs, rfl, hs, hl, W⟩ := W
  exact ⟨a, xs, rfl, hs, by rw [hl, hn], h T σ H xs (W.tmps fun p hp => List.mem_append_right _ hp) (Wd.allOf hl W) Q q⟩
/-! ### list comprehensions -/
abbrev Cz.at (c : Cz) (S : List Addr) (B : Hp) : Cz := { c with S0 := S, B := B }
theorem Wd.pin {p : Addr} {u : HO} (W : Wd (c.hidden p) T H σ ρ) (h : H p = some u) (hB : c.B p = none) (hs : ∀ a ∈ c.M, a ∈ c.S0) (h0 : p ∉ c.S0) : Wd (c.at (p :: c.S0) (upd c.B p u)) T H σ ρ := by
  have hn := W.notin h0 hs
  refine ⟨W.len, fun a o n e => ?_, W.sub, W.dom, W.tmp, W.inj, W.ap, fun i s e => ?_⟩
  · by_cases q : a = p
    · rw [q] at e ⊢
      have e : upd c.B p u p = some o := e
      rw [upd_same] at e
      rw [h, e]
    · have e : upd c.B p u a = some o := e
      rw [upd_ne q] at e
      exact W.keep a o n e
  · have ok := W.ok i s e
    cases s with
    | mu l a o =>
      obtain ⟨x, y, z⟩ := ok
      refine ⟨x, ?_, z⟩
      cases l with
      | true =>
        rw [if_pos rfl] at y ⊢
        have na : a ≠ p := fun q => W.ap i a o e (by rw [q]; exact List.mem_cons_self ..)
        show upd c.B p u a = none
        rw [upd_ne na]; exact y
      | false => rw [if_neg (by decide)] at y ⊢; exact y
    | _ => exact ok
theorem Wd.unpin {p : Addr} {u : HO} (W : Wd (c.at (p :: c.S0) (upd c.B p u)) T H σ ρ) (hB : c.B p = none) (hM : p ∉ c.M) : H p = some u ∧ Wd (c.hidden p) T H σ ρ := by
  refine ⟨W.keep p u hM upd_same, W.len, fun a o n e => W.keep a o n ?_, W.sub, W.dom, W.tmp, W.inj, W.ap, fun i s e => ?_⟩
  · show upd c.B p u a = some o
    rw [upd_ne (fun q => by
      have e : c.B a = some o := e
      rw [q, hB] at e; cases e)]
    exact e
  · have ok := W.ok i s e
    cases s with
    | mu l a o =>
      obtain ⟨x, y, z⟩ := ok
      refine ⟨x, ?_, z⟩
      cases l with
      | true =>
        rw [if_pos rfl] at y ⊢
        have na : a ≠ p := fun q => W.ap i a o e (by rw [q]; exact List.mem_cons_self ..)
        have y : upd c.B p u a = none := y
        rw [upd_ne na] at y; exact y
      | false => rw [if_neg (by decide)] at y ⊢; exact y
    | _ => exact ok
/-- what is hidden changes -/
theorem Wd.updHid {p : Addr} {u : HO} (W : Wd (c.hidden p) T H σ ρ) (hB : c.B p = none) (hn : p ∉ hid c ρ) : Wd (c.hidden p) T (upd H p u) σ ρ := by
  have e2 : Ex (hide (hid (c.hidden p) ρ) H) (hide (hid (c.hidden p) ρ) (upd H p u)) := hide_mono fun b o n e => ⟨n, by
    rw [upd_ne (fun q => n (by rw [q]; exact List.mem_cons_self ..))]; exact e⟩
  refine ⟨W.len, fun a o n e => ?_, W.sub, fun a m => ?_, fun q hq => dpm e2 (W.tmp q hq), W.inj, W.ap, fun i s e => ?_⟩
  · rw [upd_ne (fun q => by
      have e : c.B a = some o := e
      rw [q, hB] at e; cases e)]
    exact W.keep a o n e
  · by_cases q : a = p
    · rw [q]; exact ⟨u, upd_same⟩
    · rw [upd_ne q]; exact W.dom a m
  · refine slOk_mono e2 (fun a ea => upd_ne fun q => hn ?_) (W.ok i s e)
    cases s with
    | mu l b o => cases ea; exact List.mem_append_right _ (mem_muts.mpr ⟨i, l, o, q ▸ e⟩)
    | _ => cases ea
theorem wipe_wipe {σ : L2.St} : ∀ {vs : List Nat}, L2.wipe (L2.wipe σ vs) vs = L2.wipe σ vs := fun {vs} => by
  apply List.ext_getElem?
  intro k
  by_cases m : k ∈ vs
  · have w0 : ∀ {τ : L2.St} {ws : List Nat}, k ∈ ws → (L2.wipe τ ws)[k]? = (τ.map fun _ => (none : Option V))[k]? := fun {τ ws} hm => by
      induction ws with
      | nil => cases hm
      | cons y ys ih =>
        show ((L2.wipe τ ys).set y none)[k]? = _
        by_cases qq : y = k
        · subst qq
          rw [List.getElem?_set, L2.wipe_length, List.getElem?_map]
          simp
          by_cases hk : y < τ.length
          · simp [hk]
          · simp [hk]
        · rw [List.getElem?_set_ne qq]
          exact ih (by
            rcases List.mem_cons.mp hm with hm | hm
            · exact absurd hm.symm qq
            · exact hm)
    rw [w0 m, w0 m, List.getElem?_map, List.getElem?_map]
    by_cases hk : k < σ.length
    · rw [List.getElem?_eq_getElem hk, List.getElem?_eq_getElem (by rw [L2.wipe_length]; exact hk)]
      rfl
    · have h1 : (L2.wipe σ vs)[k]? = none := List.getElem?_eq_none_iff.mpr (by rw [L2.wipe_length]; omega)
      have h2 : σ[k]? = none := List.getElem?_eq_none_iff.mpr (by omega)
      rw [h1, h2]
  · rw [wipe_get m]
/-- by the turn: what the frame holds, what the new list holds -/
theorem el_lc {wi : TI} {g : TG} {tt : TT} {vs : List Nat} {ds : List Itm} (h : Ei c ρ wi ds ρ1) (I : Nat → List Sl) (acc : Nat → List PyData) (hI : I 0 = ρ1) (hacc : acc 0 = []) (hsz : ds.length ≤ 100000)
    (hvs : ∀ i, i ≤ ds.length → ∀ j ∈ vs, (I i)[j]? = some .no)
    (turn : ∀ (S : List Addr) (B : Hp) (i : Nat) (d : Itm), ds[i]? = some d → ∃ (b : Bool) (ρa ρb : List Sl), Eg (c.at S B) g d (I i) ρa vs ∧ Et (c.at S B) ρa tt b ρb ∧
      (b = true → ∃ d' ρc, Ed (c.at S B) ρb te d' ρc ∧ acc (i + 1) = acc i ++ [d'] ∧ ∀ T H σ, Wd (c.at S B) T H σ ρc → Wd (c.at S B) T H (L2.wipe σ vs) (I (i + 1))) ∧
      (b = false → acc (i + 1) = acc i ∧ ∀ T H σ, Wd (c.at S B) T H σ ρb → Wd (c.at S B) T H (L2.wipe σ vs) (I (i + 1)))) : EdL c ρ (tLc wi g tt te vs) (acc ds.length) (I ds.length) := fun T σ H W Q q =>
  h T σ H W _ fun J H1 T1 W1 hw D hD => by
    have hB := W1.freshB hD
    have hsub := W1.sub
    have nS : D ∉ c.S0 := fun m => W1.fresh hD (List.mem_append_left _ m)
    have nM : D ∉ c.M := fun m => nS (hsub D m)
    obtain ⟨_, hDn, mo0, Wh⟩ := el_new W1 (.nil) hD
    have hvs0 := hvs 0 (Nat.zero_le _)
    rw [hI] at hvs0
    have eP : ∀ {i : Nat} {H2 : Hp}, Wd (c.hidden D) (T1 ++ T) H2 (L2.wipe σ vs) (I i) → D ∉ hid c (I i) := fun W2 => W2.notin nS hsub
    have accl : ∀ i, i ≤ ds.length → (acc i).length ≤ i := fun i => by
      induction i with
      | zero => intro _; rw [hacc]; exact Nat.le_refl _
      | succ i ih =>
        intro hi
        obtain ⟨b, _, _, _, _, g3, g4⟩ := turn [] (fun _ => none) i _ (List.getElem?_eq_getElem (show i < ds.length by omega))
        have := ih (by omega)
        cases b with
        | true =>
          obtain ⟨d', _, _, e, _⟩ := g3 rfl
          rw [e, List.length_append]; show _ + 1 ≤ _; omega
        | false => rw [(g4 rfl).1]; omega
    refine ⟨fun i m H2 => i + m = ds.length ∧ Wd (c.hidden D) (T1 ++ T) H2 (L2.wipe σ vs) (I i) ∧ MoOk c.K (D :: hid c (I i)) H2 D (.lst (acc i)), ⟨ds.length, by omega, by rw [hI]; exact Wh.wipe hvs0, by rw [hI, hacc]; exact mo0⟩, fun i m H2 ⟨hm, W2, mo⟩ => ?_⟩
    by_cases hi : i < ds.length
    · obtain ⟨xs, hxs, dxs⟩ := mo
      have lx := dpa_length dxs
      have la := accl i (by omega)
      have W2a : Wd (c.at (D :: c.S0) (upd c.B D (.lst xs))) (T1 ++ T) H2 (L2.wipe σ vs) (I i) := W2.pin hxs hB hsub nS
      have W2b : Wd (c.at (D :: c.S0) (upd c.B D (.lst xs))) (xs.zip (acc i) ++ (T1 ++ T)) H2 (L2.wipe σ vs) (I i) := W2a.pushAll dxs
      have W2c : Wd (c.at (D :: c.S0) (upd c.B D (.lst xs))) (T1 ++ (xs.zip (acc i) ++ T)) H2 (L2.wipe σ vs) (I i) := W2b.tmps fun p hp => by
        simp only [List.mem_append] at hp ⊢
        rcases hp with hp | hp | hp
        · exact .inr (.inl hp)
        · exact .inl hp
        · exact .inr (.inr hp)
      have hwk := hw (c.at (D :: c.S0) (upd c.B D (.lst xs))) _ _ _ _ rfl W2c
      refine .inr ⟨(hwk.1 i hi).1, fun H3 => Wd (c.hidden D) (T1 ++ T) H3 (L2.wipe σ vs) (I (i + 1)) ∧ MoOk c.K (D :: hid c (I (i + 1))) H3 D (.lst (acc (i + 1))), fun H3 h3 => ⟨m - 1, by omega, by omega, h3.1, h3.2⟩, fun x H3 hy => ?_⟩
      obtain ⟨d, hd, W3⟩ := (hwk.1 i hi).2 x H3 hy
      obtain ⟨b, ρa, ρb, g1, g2, g3, g4⟩ := turn (D :: c.S0) (upd c.B D (.lst xs)) i d hd
      refine g1 _ _ _ _ W3 _ fun σ2 H4 W4 ew => ⟨by rw [ew, wipe_wipe], g2 _ σ2 H4 W4 _ fun H5 W5 => ?_⟩
      rw [wipe_wipe] at ew
      cases b with
      | true =>
        rw [if_pos rfl]
        obtain ⟨d', ρc, g5, ea, wk⟩ := g3 rfl
        refine g5 _ σ2 H5 W5 _ fun y H6 W6 => ?_
        have W7 := wk _ _ _ W6
        rw [ew] at W7
        obtain ⟨hx6, W8⟩ := W7.unpin hB nM
        have hn8 := W8.notin nS hsub
        refine ⟨xs, hx6, Nat.lt_of_lt_of_le (show xs.length < 100000 by omega) (by decide), ?_, ?_⟩
        · refine (W8.updHid hB hn8).tmps fun p hp => List.mem_cons_of_mem _ ?_
          simp only [List.mem_append] at hp ⊢
          rcases hp with hp | hp
          · exact .inl hp
          · exact .inr (.inr hp)
        · refine ⟨xs ++ [y], upd_same, ?_⟩
          rw [ea]
          have W9 := W8.updHid (u := .lst (xs ++ [y])) hB hn8
          have a1 : DzAll c.K (hide (hid (c.hidden D) (I (i + 1))) (upd H6 D (.lst (xs ++ [y])))) xs (acc i) := Wd.allOf (T := (y, d') :: (T1 ++ T)) lx (W9.tmps fun p hp => by
            simp only [List.mem_append, List.mem_cons] at hp ⊢
            rcases hp with hp | hp | hp | hp
            · exact .inr (.inr (.inl hp))
            · exact .inl hp
            · exact .inr (.inl hp)
            · exact .inr (.inr (.inr hp)))
          exact dpa_append a1 (.cons (W9.tmp (y, d') (List.mem_cons_self ..)) .nil)
      | false =>
        rw [if_neg (by decide)]
        obtain ⟨ea, wk⟩ := g4 rfl
        have W7 := wk _ _ _ W5
        rw [ew] at W7
        obtain ⟨hx6, W8⟩ := W7.unpin hB nM
        refine ⟨W8.tmps fun p hp => ?_, xs, hx6, ?_⟩
        · simp only [List.mem_append] at hp ⊢
          rcases hp with hp | hp
          · exact .inl hp
          · exact .inr (.inr hp)
        · rw [ea]
          exact Wd.allOf (T := T1 ++ T) lx (W8.tmps fun p hp => by
            simp only [List.mem_append, List.mem_cons] at hp ⊢
            rcases hp with hp | hp | hp
            · exact .inr (.inl hp)
            · exact .inl hp
            · exact .inr (.inr hp))
    · have ei : i = ds.length := by omega
      subst ei
      refine .inl ⟨(hw (c.hidden D) T (L2.wipe σ vs) H2 (I ds.length) rfl W2).2 _ (Nat.le_refl _), ?_⟩
      have W4 : Wd (c.hidden D) T H2 (L2.wipe σ vs) (I ds.length) := W2.tmps fun p hp => List.mem_append_right _ hp
      exact q D H2 hB (eP W2) mo (W4.unwipe (hvs _ (Nat.le_refl _)))
end
end Nz

namespace Nz
open PySem PySem.Spec PyProof.Rows L2 RZ

def wipeS (ρ : List Sl) : List Nat → List Sl
  | [] => ρ
  | v :: vs => (wipeS ρ vs).set v .no
theorem Wd.wipeS {c : Cz} {T : Tm} {H : Hp} {σ : L2.St} {ρ : List Sl} (W : Wd c T H σ ρ) : ∀ (vs : List Nat), Wd c T H (L2.wipe σ vs) (Nz.wipeS ρ vs)
  | [] => W
  | v :: vs => (Wd.wipeS W vs).setN v none .no rfl trivial
section
variable {c : Cz} {ρ ρ1 ρ2 ρ3 : List Sl} {ta tb te tx : TE} {t u : TT} {d d1 d2 d3 : PyData} {T : Tm} {H H' : Hp} {σ : L2.St}
/-- items xs, those with p, made into eb -/
theorem el_lcP {α : Type} {wi : TI} {g : TG} {tt : TT} {vs : List Nat} (xs : List α) (ea : α → Itm) (p : α → Bool) (eb : α → PyData) (h : Ei c ρ wi (xs.map ea) ρ1) (hsz : xs.length ≤ 100000) (hvs : ∀ j ∈ vs, ρ1[j]? = some .no)
    (turn : ∀ (S : List Addr) (B : Hp) (x : α), x ∈ xs → ∃ ρa, Nz.wipeS ρa vs = ρ1 ∧ Eg (c.at S B) g (ea x) ρ1 ρa vs ∧ Et (c.at S B) ρa tt (p x) ρa ∧ (p x = true → Ed (c.at S B) ρa te (eb x) ρa)) :
    EdL c ρ (tLc wi g tt te vs) ((xs.filter p).map eb) ρ1 := by
  have key := el_lc (c := c) (tt := tt) (te := te) (vs := vs) h (fun _ => ρ1) (fun i => ((xs.take i).filter p).map eb) rfl (by simp) (by rw [List.length_map]; exact hsz) (fun _ _ => hvs) (fun S B i d hd => by
    rw [List.getElem?_map] at hd
    cases hx : xs[i]? with
    | none => rw [hx] at hd; cases hd
    | some x =>
      rw [hx] at hd
      have hd : ea x = d := Option.some.inj hd
      subst hd
      obtain ⟨ρa, hw, g1, g2, g3⟩ := turn S B x (List.mem_of_getElem? hx)
      refine ⟨p x, ρa, ρa, g1, g2, fun hp => ⟨eb x, ρa, g3 hp, ?_, fun T H σ W => hw ▸ W.wipeS vs⟩, fun hp => ⟨?_, fun T H σ W => hw ▸ W.wipeS vs⟩⟩
      · rw [List.take_add_one, hx]
        simp [hp]
      · rw [List.take_add_one, hx]
        simp [hp])
  have e : (List.map eb (List.filter p (List.take (List.map ea xs).length xs))) = (xs.filter p).map eb := by
    rw [List.length_map, List.take_length]
  rw [e] at key
  exact key
/-- all items -/
theorem el_lcA {α : Type} {wi : TI} {g : TG} {vs : List Nat} (xs : List α) (ea : α → Itm) (eb : α → PyData) (h : Ei c ρ wi (xs.map ea) ρ1) (hsz : xs.length ≤ 100000) (hvs : ∀ j ∈ vs, ρ1[j]? = some .no)
    (turn : ∀ (S : List Addr) (B : Hp) (x : α), x ∈ xs → ∃ ρa, Nz.wipeS ρa vs = ρ1 ∧ Eg (c.at S B) g (ea x) ρ1 ρa vs ∧ Ed (c.at S B) ρa te (eb x) ρa) :
    EdL c ρ (tLc wi g tYes te vs) (xs.map eb) ρ1 := by
  have key := el_lcP (c := c) (tt := tYes) (te := te) (vs := vs) xs ea (fun _ => true) eb h hsz hvs (fun S B x hx => by
    obtain ⟨ρa, hw, g1, g2⟩ := turn S B x hx
    exact ⟨ρa, hw, g1, fun T σ H W Q q => q H W, fun _ => g2⟩)
  rw [List.filter_eq_self.mpr (fun _ _ => rfl)] at key
  exact key
theorem ei_rng {n : Int} (h : Ed c ρ te (.int n) ρ1) (hn : -4000000000 ≤ n ∧ n ≤ 4000000000) : Ei c ρ (iRng1 (tCons te tNil)) ((List.range n.toNat).map fun (i : Nat) => Itm.hard (PyData.int (i : Int))) ρ1 := by
  have := ei_rng1 h hn
  unfold hards rngD at this
  simp only [Int.zero_add, List.map_map] at this
  exact this

/-! ### statements -/
def Sk (c : Cz) (T : Tm) (ρ : List Sl) (nx : L2.St → Hp → Prop) : Prop := ∀ σ H, Wd c T H σ ρ → nx σ H
abbrev Ss (c : Cz) (T : Tm) (ρ : List Sl) (ts : TS) (D : Ends) : Prop := Sk c T ρ (ts D)
theorem Sk.more {T' : Tm} {nx : L2.St → Hp → Prop} (h : Sk c T ρ nx) (hT : ∀ p ∈ T, p ∈ T') : Sk c T' ρ nx := fun σ H W => h σ H (W.tmps hT)
def Le (ρ ρ' : List Sl) : Prop := ρ.length = ρ'.length ∧ ∀ (i : Nat) (s s' : Sl), ρ[i]? = some s → ρ'[i]? = some s' → slLe s s'
theorem slLe_refl (s : Sl) : slLe s s := by cases s <;> simp [slLe, MoLe]
theorem Le.refl (ρ : List Sl) : Le ρ ρ := ⟨rfl, fun i s s' h h' => by rw [h] at h'; cases h'; exact slLe_refl s⟩
theorem le_nil : Le [] [] := Le.refl _
theorem le_cons {s s' : Sl} {ρ ρ' : List Sl} (h : slLe s s') (t : Le ρ ρ') : Le (s :: ρ) (s' :: ρ') := ⟨by rw [List.length_cons, List.length_cons, t.1], fun i a b h1 h2 => by
  cases i with
  | zero => cases h1; cases h2; exact h
  | succ i => exact t.2 i a b (by simpa using h1) (by simpa using h2)⟩
theorem le_same {s : Sl} {ρ ρ' : List Sl} (t : Le ρ ρ') : Le (s :: ρ) (s :: ρ') := le_cons (slLe_refl s) t
theorem le_no {s : Sl} {ρ ρ' : List Sl} (t : Le ρ ρ') : Le (s :: ρ) (.no :: ρ') := le_cons (by cases s <;> exact trivial) t
theorem le_da {ρ ρ' : List Sl} (e : d = d1) (t : Le ρ ρ') : Le (.da d :: ρ) (.da d1 :: ρ') := le_cons e t
theorem le_frz {ρ ρ' : List Sl} {a : Addr} {ds : List PyData} (t : Le ρ ρ') : Le (.mu true a (.lst ds) :: ρ) (.da (.list ds) :: ρ') := le_cons ⟨rfl, rfl⟩ t
theorem le_mu {ρ ρ' : List Sl} {l : Bool} {a : Addr} {o o' : MO} (e : o = o') (t : Le ρ ρ') : Le (.mu l a o :: ρ) (.mu l a o' :: ρ') := le_cons ⟨rfl, rfl, .inl e⟩ t
theorem le_any {ρ ρ' : List Sl} {l : Bool} {a : Addr} {ds : List PyData} {P : List PyData → Prop} (p : P ds) (t : Le ρ ρ') : Le (.mu l a (.lst ds) :: ρ) (.mu l a (.any P) :: ρ') := le_cons ⟨rfl, rfl, .inr ⟨ds, P, rfl, rfl, p⟩⟩ t
theorem Wd.le (W : Wd c T H σ ρ) (h : Le ρ ρ') : Wd c T H σ ρ' := W.weak h.1 h.2
theorem s_le {nx : L2.St → Hp → Prop} (h : Le ρ ρ1) (k : Sk c T ρ1 nx) : Sk c T ρ nx := fun σ H W => k σ H (W.le h)
theorem s_end (h : Le ρ ρ1) : Sk c T ρ (fun σ H => Wd c T H σ ρ1) := fun σ H W => W.le h
variable {D : Ends} {ts tu : TS} {g : TG} {nx bk ct : L2.St → Hp → Prop} {rt : VK}
theorem s_seq (h : Ss c T ρ ts { D with nx := tu D }) : Ss c T ρ (tSeq ts tu) D := h
theorem s_next (k : Sk c T ρ nx) : Ss c T ρ tNext ⟨nx, rt, bk, ct⟩ := k
theorem s_asgG {ws : List Nat} (h : Ed c ρ te d ρ1) (hg : Eg c g (.hard d) ρ1 ρ2 ws) (k : Sk c T ρ2 nx) : Ss c T ρ (tAsg te g) ⟨nx, rt, bk, ct⟩ := fun σ H W => h T σ H W _ fun v H1 W1 => hg T σ H1 v W1 _ fun σ2 H2 W2 _ => k σ2 H2 W2
theorem s_asg {i : Nat} (h : Ed c ρ te d ρ1) (k : Sk c T (ρ1.set i (.da d)) nx) : Ss c T ρ (tAsg te (gName i)) ⟨nx, rt, bk, ct⟩ := s_asgG (ws := [i]) h (eg_name (List.mem_cons_self ..)) k
/-- a new list that will change -/
theorem s_asgM {i : Nat} {ds : List PyData} (h : EdL c ρ te ds ρ1) (k : ∀ p, Sk c T (ρ1.set i (.mu true p (.lst ds))) nx) : Ss c T ρ (tAsg te (gName i)) ⟨nx, rt, bk, ct⟩ := fun σ H W =>
  h T σ H W _ fun p H1 hB hn mo W1 => k p _ _ (W1.setM W.sub i (by rw [if_pos rfl]; exact hB) hn mo)
/-- a, b = x, y -/
theorem s_par {i j : Nat} {x y : PyData} {tp : TA} (h : Ea c ρ tp [.dat x, .dat y] ρ1) (k : Sk c T ((ρ1.set i (.da x)).set j (.da y)) nx) : Ss c T ρ (tPar i j tp) ⟨nx, rt, bk, ct⟩ := fun σ H W => h T σ H W _ fun vs H1 a W1 => by
  obtain ⟨v, w, rfl, h1, h2⟩ := aa2 a
  refine ⟨v, w, rfl, ?_⟩
  have W2 := ((W1.push h2).push h1)
  have W3 := (W2.pop.push h1).setD i h1
  have W4 := W3.pop.setD j (W3.tmp (w, y) (by simp))
  exact k _ _ W4.pop
theorem s_aug {i : Nat} {f : Int → Int → Int} {a b : Int} (hx : ρ[i]? = some (.da (.int a))) (h : Ed c ρ te (.int b) ρ) (k : Sk c T (ρ.set i (.da (.int (f a b)))) nx) : Ss c T ρ (tAug i te (ipI f)) ⟨nx, rt, bk, ct⟩ := fun σ H W => by
  obtain ⟨v, e, dp⟩ := W.ok i _ hx
  refine ⟨v, e, h T σ H W _ fun w H1 W1 => ⟨a, b, dp_int dp, dp_int W1.dp, ?_⟩⟩
  exact k _ _ (W1.pop.setD i (.int _))
theorem s_drop (h : Ed c ρ te d ρ1) (k : Sk c T ρ1 nx) : Ss c T ρ (tDrop te) ⟨nx, rt, bk, ct⟩ := fun σ H W => h T σ H W _ fun v H1 W1 => k σ H1 W1.pop
theorem s_append {i : Nat} {l : Bool} {a : Addr} {ds : List PyData} (h : Ed c ρ te d ρ1) (h0 : ∃ l ds, ρ[i]? = some (.mu l a (.lst ds))) (ha : ρ1[i]? = some (.mu l a (.lst ds))) (hz : ds.length < 100000) (k : Sk c T (ρ1.set i (.mu l a (.lst (ds ++ [d])))) nx) :
    Ss c T ρ (tDrop (tBM c.K "list" rAppend (tVar i) (tCons te tNil))) ⟨nx, rt, bk, ct⟩ := fun σ H W => by
  obtain ⟨l0, o0, h0⟩ := h0
  obtain ⟨e0, e2, e3⟩ := W.ok i _ h0
  obtain ⟨ys, e7, _⟩ := e3
  have ty : tyV c.K "list" (.ref a) H := .inl ⟨rfl, ys, sq_of e7⟩
  refine ⟨.ref a, e0, ty, h T σ H W _ fun v H1 W1 => ?_⟩
  obtain ⟨_, _, xs, e4, e5⟩ := W1.ok i _ ha
  refine ⟨a, xs, v, rfl, rfl, e4, by rw [dpa_length e5]; exact Nat.lt_of_lt_of_le hz (by decide), ?_⟩
  refine k _ _ (W1.pop.updM ha ⟨xs ++ [v], upd_same, ?_⟩)
  have hm : a ∈ hid c ρ1 := List.mem_append_right _ (mem_muts.mpr ⟨i, l, _, ha⟩)
  have e6 : Ex (hide (hid c ρ1) H1) (hide (hid c ρ1) (upd H1 a (.lst (xs ++ [v])))) := hide_mono fun b o nb e => ⟨nb, by rw [upd_ne (fun q => nb (by rw [q]; exact hm))]; exact e⟩
  exact dpam e6 (dpa_append e5 (.cons W1.dp .nil))
theorem s_setL {i : Nat} {l : Bool} {a : Addr} {ds : List PyData} {j : Int} {n : Nat} (h : Ed c ρ te d ρ1) (hj : Ed c ρ1 tb (.int j) ρ2) (h0 : ∃ l o, ρ1[i]? = some (.mu l a o)) (ha : ρ2[i]? = some (.mu l a (.lst ds))) (hn : ixN ds.length j = some n) (k : Sk c T (ρ2.set i (.mu l a (.lst (ds.set n d)))) nx) :
    Ss c T ρ (tAsg te (gSub (tVar i) tb rSetL)) ⟨nx, rt, bk, ct⟩ := fun σ H W => h T σ H W _ fun v H1 W1 => by
  obtain ⟨l0, o0, h0⟩ := h0
  obtain ⟨e0, _, _⟩ := W1.ok i _ h0
  refine ⟨.ref a, e0, hj _ σ H1 W1 _ fun w H2 W2 => ?_⟩
  obtain ⟨e1, e2, xs, e3, e4⟩ := W2.ok i _ ha
  refine ⟨a, xs, j, n, rfl, dp_int W2.dp, e3, by rw [dpa_length e4]; exact hn, ?_⟩
  have W3 := W2.pop
  refine k _ _ (W3.pop.updM ha ⟨xs.set n v, upd_same, ?_⟩)
  have hm : a ∈ hid c ρ2 := List.mem_append_right _ (mem_muts.mpr ⟨i, l, _, ha⟩)
  have e5 : Ex (hide (hid c ρ2) H2) (hide (hid c ρ2) (upd H2 a (.lst (xs.set n v)))) := hide_mono fun b o nb e => ⟨nb, by rw [upd_ne (fun q => nb (by rw [q]; exact hm))]; exact e⟩
  exact dpam e5 (dpa_set n e4 W3.dp)
theorem s_if {b : Bool} (h : Et c ρ t b ρ1) (h1 : b = true → Ss c T ρ1 ts D) (h2 : b = false → Ss c T ρ1 tu D) : Ss c T ρ (tIfS t ts tu) D := fun σ H W => h T σ H W _ fun H1 W1 => by
  cases b with
  | true => exact h1 rfl σ H1 W1
  | false => exact h2 rfl σ H1 W1
/-- an if that is not entered (what is in it is never reached) -/
theorem s_skip {b : Bool} (h : Et c ρ t b ρ1) (hb : b = false) (k : Sk c T ρ1 nx) : Ss c T ρ (tIfS t ts tNext) ⟨nx, rt, bk, ct⟩ := s_if h (fun e => by rw [hb] at e; cases e) (fun _ => k)
/-- a for over anything -/
theorem s_for {wi : TI} {tbd : TS} {ds : List Itm} (h : Ei c ρ wi ds ρ1) (I : Nat → List Sl) (h0 : Le ρ1 (I 0))
    (hs : ∀ (T' : Tm), (∀ p ∈ T, p ∈ T') → ∀ (i : Nat) (d : Itm), ds[i]? = some d → ∃ ρa ws, Eg c g d (I i) ρa ws ∧ Ss c T' ρa tbd ⟨fun σ H => Wd c T' H σ (I (i + 1)), rt, nx, fun σ H => Wd c T' H σ (I (i + 1))⟩)
    (hd : Sk c T (I ds.length) nx) : Ss c T ρ (tFor wi g tbd) ⟨nx, rt, bk, ct⟩ := fun σ H W => h T σ H W _ fun J H1 T1 W1 hw => by
  refine ⟨fun i m σ' H' => i + m = ds.length ∧ Wd c (T1 ++ T) H' σ' (I i), ⟨ds.length, by omega, W1.le h0⟩, fun i m σ' H' ⟨hm, W2⟩ => ?_⟩
  have hwk := hw c T σ' H' (I i) rfl W2
  by_cases hi : i < ds.length
  · refine .inr ⟨(hwk.1 i hi).1, fun σ3 H3 => Wd c (T1 ++ T) H3 σ3 (I (i + 1)), fun σ3 H3 h3 => ⟨m - 1, by omega, by omega, h3⟩, fun x H3 hy => ?_⟩
    obtain ⟨d, hd', W3⟩ := (hwk.1 i hi).2 x H3 hy
    obtain ⟨ρa, ws, g1, g2⟩ := hs (T1 ++ T) (fun p hp => List.mem_append_right _ hp) i d hd'
    exact g1 _ σ' H3 x W3 _ fun σ4 H4 W4 _ => g2 σ4 H4 W4
  · have ei : i = ds.length := by omega
    subst ei
    exact .inl ⟨hwk.2 _ (Nat.le_refl _), hd σ' H' (W2.tmps fun p hp => List.mem_append_right _ hp)⟩
/-- a for over typed items -/
theorem s_forX {α : Type} {wi : TI} {tbd : TS} (xs : List α) (ea : α → Itm) (h : Ei c ρ wi (xs.map ea) ρ1) (I : Nat → List Sl) (h0 : Le ρ1 (I 0))
    (hs : ∀ (T' : Tm), (∀ p ∈ T, p ∈ T') → ∀ (i : Nat) (x : α), xs[i]? = some x → ∃ ρa ws, Eg c g (ea x) (I i) ρa ws ∧ Ss c T' ρa tbd ⟨fun σ H => Wd c T' H σ (I (i + 1)), rt, nx, fun σ H => Wd c T' H σ (I (i + 1))⟩)
    (hd : Sk c T (I xs.length) nx) : Ss c T ρ (tFor wi g tbd) ⟨nx, rt, bk, ct⟩ := by
  refine s_for h I h0 (fun T' hT i d hd => ?_) (by rw [List.length_map]; exact hd)
  rw [List.getElem?_map] at hd
  cases hx : xs[i]? with
  | none => rw [hx] at hd; cases hd
  | some x =>
    rw [hx] at hd
    have hd : ea x = d := Option.some.inj hd
    subst hd
    exact hs T' hT i x hx
/-- a while, by a state α -/
theorem s_while {α : Type} {tbd : TS} (I : α → List Sl) (P : α → Prop) (μ : α → Nat) (a0 : α) (hP : P a0) (h0 : Le ρ (I a0))
    (hs : ∀ a, P a → ∃ (b : Bool) (ρa : List Sl), Et c (I a) t b ρa ∧ (b = true → Ss c T ρa tbd ⟨fun σ H => ∃ a', P a' ∧ μ a' < μ a ∧ Wd c T H σ (I a'), rt, nx, fun σ H => ∃ a', P a' ∧ μ a' < μ a ∧ Wd c T H σ (I a')⟩) ∧ (b = false → Sk c T ρa nx)) :
    Ss c T ρ (tWhile t tbd) ⟨nx, rt, bk, ct⟩ := fun σ H W => by
  refine ⟨fun m σ' H' => ∃ a, P a ∧ μ a = m ∧ Wd c T H' σ' (I a), ⟨μ a0, a0, hP, rfl, W.le h0⟩, fun m σ' H' ⟨a, ha, hm, W1⟩ => ?_⟩
  obtain ⟨b, ρa, g1, g2, g3⟩ := hs a ha
  refine g1 T σ' H' W1 _ fun H2 W2 => ?_
  cases b with
  | true =>
    rw [if_pos rfl]
    refine ⟨fun σ3 H3 => ∃ a', P a' ∧ μ a' < μ a ∧ Wd c T H3 σ3 (I a'), fun σ3 H3 ⟨a', q1, q2, q3⟩ => ⟨μ a', by omega, a', q1, rfl, q3⟩, g2 rfl σ' H2 W2⟩
  | false =>
    rw [if_neg (by decide)]
    exact g3 rfl σ' H2 W2
theorem s_endW {α : Type} {I : α → List Sl} {P : α → Prop} {μ : α → Nat} {n : Nat} (a' : α) (hP : P a') (hμ : μ a' < n) (h : Le ρ (I a')) : Sk c T ρ (fun σ H => ∃ a', P a' ∧ μ a' < n ∧ Wd c T H σ (I a')) := fun σ H W => ⟨a', hP, hμ, W.le h⟩
/-- what is wanted of what is returned -/
def Rt (c : Cz) (d : PyData) (ms : List (Addr × MO)) (rt : VK) : Prop := ∀ v H', (∀ a o, a ∉ c.M → c.B a = some o → H' a = some o) → (∀ p ∈ ms, MoOk c.K c.S0 H' p.1 p.2) → Dz c.K (hide c.S0 H') v d → rt v H'
theorem hide_S0 : Ex (hide (hid c ρ) H) (hide c.S0 H) := hide_mono fun a o n h => ⟨fun m => n (List.mem_append_left _ m), h⟩
theorem s_ret (h : Ed c ρ te d ρ1) (hr : Rt c d [] D.rt) : Ss c T ρ (tRet te) D := fun σ H W => h T σ H W _ fun v H1 W1 => hr v H1 W1.keep (fun _ hp => by cases hp) (dpm hide_S0 W1.dp)
theorem s_retS {i : Nat} {l : Bool} {a : Addr} {st : MO} (h : Ed c ρ te d ρ1) (hi : ρ1[i]? = some (.mu l a st)) (hr : Rt c d [(a, st)] D.rt) : Ss c T ρ (tRet te) D := fun σ H W => h T σ H W _ fun v H1 W1 => hr v H1 W1.keep (fun p hp => by
  simp only [List.mem_singleton] at hp
  subst hp
  exact (W1.ok i _ hi).2.2.mono hide_S0 rfl) (dpm hide_S0 W1.dp)
/-! ### a def's entry -/
theorem start_wd {K : PySem.W.Frag} {N : List Str} {vs : List V} {ds : List PyData} {S M : List Addr} {H : Hp} (hd : ∀ a ∈ S, ∃ o, H a = some o) (a : DzAll K (hide S H) vs ds) (hl : ds.length ≤ N.length) :
    Wd ⟨K, H, [], S⟩ [] H (L2.start N vs) (ds.map .da ++ List.replicate (N.length - ds.length) .no) := by
  have lv := dpa_length a
  have nm : ∀ (i : Nat) (l : Bool) (b : Addr) (o : MO), (ds.map Sl.da ++ List.replicate (N.length - ds.length) Sl.no)[i]? ≠ some (.mu l b o) := fun i l b o e => by
    have := List.mem_of_getElem? e
    simp at this
  have hid0 : muts (ds.map Sl.da ++ List.replicate (N.length - ds.length) Sl.no) = [] := by
    apply List.eq_nil_iff_forall_not_mem.mpr
    intro b m
    obtain ⟨i, l, o, e⟩ := mem_muts.mp m
    exact nm i l b o e
  have hh : hid ⟨K, H, [], S⟩ (ds.map Sl.da ++ List.replicate (N.length - ds.length) Sl.no) = S := by
    show S ++ muts _ = S
    rw [hid0, List.append_nil]
  refine ⟨?_, fun a o _ h => h, fun a m => (nomatch m), hd, fun p hp => (nomatch hp), fun i j l m a o u h _ => absurd h (nm i l a o), fun i a o h => absurd h (nm i true a o), fun i s e => ?_⟩
  · unfold L2.start
    simp [lv]
  · rw [hh]
    unfold L2.start
    by_cases hi : i < ds.length
    · rw [List.getElem?_append_left (by simpa using hi), List.getElem?_map, List.getElem?_eq_getElem hi] at e
      cases e
      obtain ⟨v, e1, e2⟩ := dpa_get a (List.getElem?_eq_getElem hi)
      refine ⟨v, ?_, e2⟩
      rw [List.getElem?_append_left (by simp; omega), List.getElem?_map, e1]
      rfl
    · rw [List.getElem?_append_right (by simp; omega)] at e
      have := List.mem_of_getElem? e
      simp at this
      rw [this.2]
      exact trivial
/-- a pure def -/
theorem fn_pure {K : PySem.W.Frag} {R : List PyData → PyData → Prop} {N : List Str} {ts : TS} (hN : ∀ ds d, R ds d → ds.length ≤ N.length)
    (h : ∀ (B : Hp) (S : List Addr) (ds : List PyData) (d : PyData), R ds d → ∀ D : Ends, Rt ⟨K, B, [], S⟩ d [] D.rt → (d = .none → ∀ T ρ, Sk ⟨K, B, [], S⟩ T ρ D.nx) → Ss ⟨K, B, [], S⟩ [] (ds.map .da ++ List.replicate (N.length - ds.length) .no) ts D)
    (vs : List V) (H : Hp) (Q : VK) (E : XK) (hs : SpP K R vs H Q E) : ts { nx := fun _ H' => Q .non H', rt := Q } (L2.start N vs) H := by
  obtain ⟨S, ds, d, hd, a, hR, q⟩ := hs
  refine h H S ds d hR { nx := fun _ H' => Q .non H', rt := Q } (fun v H' k _ dp => q v H' (fun a o e => k a o (fun m => nomatch m) e) dp) (fun e T ρ σ H' W => ?_) _ _ (start_wd (M := []) hd a (hN _ _ hR))
  subst e
  exact q .non H' (fun a o e => W.keep a o (fun m => nomatch m) e) .non
end
end Nz

/-! rules of the machine that the layer lacks: plain tuples, reversed tuples, sums of tuples, tuple.count, repr of data, products and quotients of great ints -/
namespace Nz
open PySem PySem.Spec PyProof.Rows L2 RZ HT

theorem isTup_dict {h : Heap} {a : Addr} {o : Obj} {its : Array Value} (e : h.get? a = some o) (p : IsTup h a its) : o.cls = .type "tuple" ∧ ∃ n, o.data = .seq its n := by
  obtain ⟨o', e', hc, hd⟩ := p
  rw [e] at e'
  cases e'
  exact ⟨hc, hd⟩
section
variable {X : Cx} {pins : List (Addr × Obj)} {σ : L2.St} {H : Hp} {s : Shared}
/-- a new tuple is laid, plain -/
theorem newTup (I : Inv X pins σ H s) {xs : List V} {its : List Value} {Q : VK} (z : xs.length ≤ sizeLine) (r : Vals xs its) (q : ∀ p o, o.dict = none → H p = none → Q (.ref p) (upd H p (.frz o (.tup xs)))) :
    EP X pins σ Q (.ref s.heap.objs.size) { s with heap := s.heap.push { cls := .type "tuple", data := .seq its.toArray } } := by
  refine ⟨.ref s.heap.objs.size, _, I.laid (t' := s.toks) (o := .frz { cls := .type "tuple", data := .seq its.toArray } (.tup xs)) (fun b ob q => Heap.get?_push_of_some _ q) (Nat.le_refl _) ?_, rfl, q _ _ rfl (I.hok.fresh (Nat.le_refl _))⟩
  exact ⟨Heap.get?_push_size _ rfl, z, its, r, IsTup.new _ _⟩
theorem pe_tupF {es : List Expr} {t : TA} {x1} {pos : Pos} (h : PA X es t) : PE X (.Tuple es x1 pos) (tTupF t) := by
  refine ⟨fun pins s σ H Q I hq => ?_⟩
  refine wpAny_Tuple_spliced (thn (h.run pos pins s σ H _ I hq) fun us s1 ⟨xs, H1, I1, r, z, q⟩ => ⟨by rw [← r.length]; exact z, ?_⟩)
  exact newTup I1 z r q
theorem call_tupleF : CallR X (.type "tuple") (rTupOf X.K) := by
  intro pins s σ H xs us Q I r h
  obtain ⟨p, ys, rfl, h⟩ := h
  obtain ⟨u, rfl, rx⟩ := vals1 r
  cases rx
  rcases h with ⟨hq, q⟩ | ⟨hq, q⟩
  · obtain ⟨its, r', pl, hz⟩ := I.list hq
    have hlen := r'.length
    refine call_tuple_list pl.isList (fun h' kp => ?_) (by simp only [List.size_toArray] <;> omega)
    exact newTup (s := { s with heap := h' }) (I.kept (t' := s.toks) kp) hz r' q
  · obtain ⟨its, r', pl, hz⟩ := I.tuple hq
    exact call_tuple_same pl ⟨.ref p, H, I, rfl, q⟩
/-- t + u -/
def rCatF (K : PySem.W.Frag) : R2 := fun x y H Q => ∃ a b xs ys, x = .ref a ∧ y = .ref b ∧ SqT K H a xs ∧ SqT K H b ys ∧ xs.length + ys.length ≤ sizeLine ∧
  (xs = [] → Q (.ref b) H) ∧ (xs ≠ [] → ys = [] → Q (.ref a) H) ∧ (xs ≠ [] → ys ≠ [] → ∀ p o, o.dict = none → H p = none → Q (.ref p) (upd H p (.frz o (.tup (xs ++ ys)))))
theorem op_catF : OpR X (binaryOp .Add) (rCatF X.K) := by
  intro pins s σ H x y v u Q I rx ry h
  obtain ⟨a, b, xs, ys, rfl, rfl, ha, hb, hz, q0, q1, q2⟩ := h
  cases rx
  cases ry
  obtain ⟨its, r1, p1, _⟩ := I.tuple ha
  obtain ⟨its2, r2, p2, _⟩ := I.tuple hb
  by_cases hx : xs = []
  · subst hx
    cases r1
    exact cat_tup0 p1 p2 ⟨.ref b, H, I, rfl, q0 rfl⟩
  · refine cat_tup p1 p2 (fun z => hx (r1.nil_iff.mp z)) (fun z => ⟨.ref a, H, I, rfl, q1 hx (r2.nil_iff.mp z)⟩) (fun z => ?_) (by rw [← r1.length, ← r2.length]; exact hz)
    exact newTup I (by rw [List.length_append]; exact hz) (r1.append r2) (q2 hx (fun w => z (r2.nil_iff.mpr w)))
/-- t[lo:hi]: the whole of it is t itself -/
def rSlF (K : PySem.W.Frag) : V → Option Int → Option Int → Hp → VK → Prop := fun x lo hi H Q => ∃ a xs, x = .ref a ∧ SqT K H a xs ∧
  (sIx xs.length 0 lo = 0 ∧ sIx xs.length xs.length hi = xs.length → Q (.ref a) H) ∧ (¬ (sIx xs.length 0 lo = 0 ∧ sIx xs.length xs.length hi = xs.length) → ∀ p o, o.dict = none → H p = none → Q (.ref p) (upd H p (.frz o (.tup (cutV xs lo hi)))))
theorem sl_tupF : SlR X (rSlF X.K) := by
  intro pins s σ H x v vl vu lo hi sl Q I rx hs pl pu h
  obtain ⟨a, xs, rfl, hx, q1, q2⟩ := h
  cases rx
  obtain ⟨its, r, ht, hz⟩ := I.tuple hx
  have hlen : its.toArray.size = xs.length := by rw [List.size_toArray]; exact r.length.symm
  by_cases hw : sIx xs.length 0 lo = 0 ∧ sIx xs.length xs.length hi = xs.length
  · refine ⟨"tuple", _, PyProof.Rows.slot_tuple_getitem.lookup, ht.typeIs, ?_⟩
    exact getItem_tuple_whole ht hs pl pu (by rw [hlen]; exact hw) ⟨.ref a, H, I, rfl, q1 hw⟩
  · refine ⟨"tuple", _, PyProof.Rows.slot_tuple_getitem.lookup, ht.typeIs, ?_⟩
    refine getItem_tuple_cut ht hs pl pu (by rw [hlen]; exact hw) ?_ (by rw [hlen]; exact hz)
    rw [hlen]
    exact newTup I (Nat.le_trans (cutV_length xs lo hi) hz) ((r.drop _).take _) (q2 hw)
end
/-! ### t[::-1] -/
section
variable {prog : Program} {w : World} {A : Around} {E : Value → Shared → Prop} {s : Shared}
theorem sliceApplied_rev {sl : Addr} {vl vu vs : Value} {n : Nat} {Q : Int × Int × Nat → Shared → Prop} (hs : s.heap.IsSliceOf sl vl vu vs) (pl : IsPart vl none) (pu : IsPart vu none) (ps : IsPart vs (some (-1)))
    (h : Q ((n : Int) - 1, -1, n) s) : wpAny (model prog w) A (Builtin.Slice.sliceApplied (.ref sl) (pure (n : Int))) Q E s := by
  obtain ⟨os, hos, hcs, hds⟩ := id hs
  unfold Builtin.Slice.sliceApplied Builtin.Slice.sliceFields
  refine wpAny_bind (wpAny_bind (wpAny_field hos hds (x := vl) rfl (wpAny_bind (wpAny_field hos hds (x := vu) rfl (wpAny_bind (wpAny_field hos hds (x := vs) rfl (wpAny_pure ?_)))))))
  refine wpAny_bind (slicePart_ ps ?_)
  show wpAny _ _ (if ((-1 : Int) == 0) = true then _ else _) _ _ s
  rw [if_neg (by decide)]
  refine wpAny_bind (slicePart_ pl (wpAny_bind (slicePart_ pu (wpAny_bind (wpAny_pure ?_)))))
  show wpAny _ _ (match Builtin.Slice.sliceAdjust none none (-1) (n : Int) with | (lo, hi) => pure (lo, (-1 : Int), Builtin.Slice.slicePlaces lo hi (-1))) _ _ s
  have e1 : Builtin.Slice.sliceAdjust none none (-1) (n : Int) = ((n : Int) - 1, -1) := rfl
  have e2 : Builtin.Slice.slicePlaces ((n : Int) - 1) (-1) (-1) = n := by
    unfold Builtin.Slice.slicePlaces
    rw [if_neg (by decide), show (-(-1 : Int)) = 1 from rfl, Int.ediv_one]
    split <;> omega
  rw [e1]
  show wpAny _ _ (pure ((n : Int) - 1, (-1 : Int), Builtin.Slice.slicePlaces ((n : Int) - 1) (-1) (-1))) _ _ s
  rw [e2]
  exact wpAny_pure h
theorem pick_rev (xs : Array Value) : ((List.range xs.size).filterMap fun (m : Nat) => xs[(((xs.size : Int) - 1) + (m : Int) * (-1)).toNat]?) = xs.toList.reverse := by
  apply List.ext_getElem?
  intro i
  have e : ((List.range xs.size).filterMap fun (m : Nat) => xs[(((xs.size : Int) - 1) + (m : Int) * (-1)).toNat]?) = (List.range xs.size).map fun (m : Nat) => xs.toList.getD (xs.size - 1 - m) .none := by
    have : ∀ l : List Nat, (∀ m ∈ l, m < xs.size) → (l.filterMap fun (m : Nat) => xs[(((xs.size : Int) - 1) + (m : Int) * (-1)).toNat]?) = l.map fun (m : Nat) => xs.toList.getD (xs.size - 1 - m) .none := fun l => by
      induction l with
      | nil => intro _; rfl
      | cons m l ih =>
        intro h
        have hm := h m (List.mem_cons_self ..)
        have ei : (((xs.size : Int) - 1) + (m : Int) * (-1)).toNat = xs.size - 1 - m := by omega
        have hlt : xs.size - 1 - m < xs.size := by omega
        rw [List.filterMap_cons, List.map_cons, ei, Array.getElem?_eq_getElem hlt, ih fun k hk => h k (List.mem_cons_of_mem _ hk)]
        simp [List.getD, hlt]
    exact this _ fun m hm => List.mem_range.mp hm
  rw [e, List.getElem?_map]
  by_cases hi : i < xs.size
  · rw [List.getElem?_range hi, List.getElem?_reverse (by simpa using hi)]
    simp [List.getD, show xs.size - 1 - i < xs.size by omega]
  · rw [List.getElem?_eq_none_iff.mpr (by simp; omega), List.getElem?_eq_none_iff.mpr (by simp; omega)]
    rfl
theorem getItem_tuple_rev {t sl : Addr} {items : Array Value} {vl vu vs : Value} {Q : Value → Shared → Prop} (ht : IsTup s.heap t items) (hs : s.heap.IsSliceOf sl vl vu vs) (pl : IsPart vl none) (pu : IsPart vu none) (ps : IsPart vs (some (-1)))
    (h : Q (.ref s.heap.objs.size) { s with heap := s.heap.push { cls := .type "tuple", data := .seq items.toList.reverse.toArray } })
    (hsz : items.size ≤ sizeLine) : wpAny (model prog w) A (getItem (.ref t) (.ref sl)) Q E s := by
  have htake : sizeOk (.seq items.toList.reverse.toArray) := by
    show items.toList.reverse.toArray.size ≤ sizeLine
    rw [List.size_toArray, List.length_reverse, Array.length_toList]
    exact hsz
  obtain ⟨os, hos, hcs, hds⟩ := id hs
  have hTs : s.TypeIs (.ref sl) "slice" := ⟨os, hos, hcs⟩
  unfold getItem
  try with_reducible refine wpAny_holding ?_
  first | refine wpAny_bind (wpAny_pure ?_) | skip
  refine wpAny_bind (wpAny_sequenceKey ht.typeIs (by decide) ?_)
  refine wpAny_bind (wpAny_callSpecial?_slot (name := Str.ofString "__getitem__") ht.typeIs PyProof.Rows.slot_tuple_getitem
    (wpAny_call_entry PyProof.Rows.slot_tuple_getitem ht.typeIs entry_tuple_getitem ?_ (args_tuple_getitem _ _)))
  show wpAny _ _ (Builtin.Tuple.tupleItemsOf (.ref t) >>= _) _ _ s
  refine wpAny_bind (tupleItemsOf_ ht ?_)
  refine wpAny_bind (wpAny_typeOf hTs ?_)
  rw [if_pos (by decide)]
  refine wpAny_bind (sliceApplied_rev hs pl pu ps ?_)
  have hno : ¬ ((((items.size : Int) - 1) == 0 && (-1 : Int) == 1 && items.size == items.size) = true) := by
    intro q
    rw [Bool.and_eq_true, Bool.and_eq_true] at q
    exact absurd (eq_of_beq q.1.2) (by decide)
  show wpAny _ _ (if (((items.size : Int) - 1) == 0 && (-1 : Int) == 1 && items.size == items.size) = true then _ else _) _ _ s
  rw [if_neg hno, pick_rev]
  first
    | exact wpAny_bind (m := Builtin.Tuple.tupleExact _) (wpAny_newObj_type (wpAny_pure ⟨_, rfl, wpAny_pure h⟩) htake)
    | exact wpAny_bind (m := Builtin.Tuple.tupleExact _) (wpAny_newObj_type (wpAny_bind (wpAny_pure (wpAny_pure ⟨_, rfl, wpAny_pure h⟩))) htake)
    | exact wpAny_bind (wpAny_bind (m := Builtin.Tuple.tupleExact _) (wpAny_newObj_type (wpAny_pure (wpAny_pure ⟨_, rfl, wpAny_pure h⟩)) htake))
    | exact wpAny_bind (wpAny_bind (m := Builtin.Tuple.tupleExact _) (wpAny_newObj_type (wpAny_pure ⟨_, rfl, wpAny_pure h⟩) htake))
end
section
variable {X : Cx}
def tRevT (K : PySem.W.Frag) (te : TE) : TE := fun σ H Q => te σ H fun x H1 => ∃ a xs, x = .ref a ∧ SqT K H1 a xs ∧ ∀ p o, o.dict = none → H1 p = none → Q (.ref p) (upd H1 p (.frz o (.tup xs.reverse)))
theorem pe_revT {e : Expr} {te : TE} {k : Nat} {p1 p2 p3 pos : Pos} (he : PE X e te) : PE X (.Subscript e (.Slice none none (some (.UnaryOp .USub (.Constant (.int 1) k p1) p2)) p3) pos) (tRevT X.K te) := by
  refine ⟨fun pins s σ H Q I h => ?_⟩
  refine Subscript_ (thn (he.run pins s σ H _ I h) fun v s1 ⟨x, H1, I1, r1, q1⟩ => ?_)
  obtain ⟨a, xs, ex, hx, q⟩ := q1
  subst ex
  cases r1
  have hst : PO X (some (.UnaryOp .USub (.Constant (.int 1) k p1) p2)) (tPart (tUn (rU fun i => .int (-i)) (tC (.int 1)))) := po_some (pe_un un_neg pe_int)
  refine wpAny_Slice (thn (po_none.run pins s1 σ H1 (fun o H2 => o = none ∧ H2 = H1) I1 ⟨rfl, rfl⟩) fun vl s2 ⟨l, H2, I2, pl, el, e2⟩ => ?_)
  subst el e2
  refine thn (po_none.run pins s2 σ H2 (fun o H3 => o = none ∧ H3 = H2) I2 ⟨rfl, rfl⟩) fun vu s3 ⟨u, H3, I3, pu, eu, e3⟩ => ?_
  subst eu e3
  refine thn (hst.run pins s3 σ H3 (fun o H4 => o = some (-1) ∧ H4 = H3) I3 ⟨1, rfl, -1, rfl, rfl, rfl⟩) fun vs s4 ⟨o, H4, I4, ps, eo, e4⟩ => ?_
  subst eo e4
  have I5 : Inv X pins σ H4 { s4 with heap := s4.heap.push { cls := .type "slice", data := .fields #[vl, vu, vs] } } := I4.kept (t' := s4.toks) fun b ob q => Heap.get?_push_of_some _ q
  obtain ⟨its, r, ht, hz⟩ := I5.tuple hx
  have hlen := r.length
  show wpAny (model X.prog X.w) X.A (subscriptTail e (.Slice none none (some (.UnaryOp .USub (.Constant (.int 1) k p1) p2)) p3) (.ref a) (.ref s4.heap.objs.size)) (EP X pins σ Q) X.xe { s4 with heap := s4.heap.push { cls := .type "slice", data := .fields #[vl, vu, vs] } }
  refine tail_any (ops := [.ref a, .ref s4.heap.objs.size]) ht.typeIs (PyProof.Rows.slot_tuple_getitem.lookup) ?_ (by with_unfolding_all rfl)
  refine getItem_tuple_rev ht (Heap.IsSliceOf.new _ vl vu vs) pl pu ps ?_ (by rw [List.size_toArray]; omega)
  exact newTup I5 (by rw [List.length_reverse]; exact hz) r.reverse q
end
/-! ### list + list, whatever they are -/
section
variable {X : Cx}
def rCatG (K : PySem.W.Frag) : R2 := fun x y H Q => ∃ a b xs ys, x = .ref a ∧ y = .ref b ∧ SqL K H a xs ∧ SqL K H b ys ∧ xs.length + ys.length ≤ sizeLine ∧ ∀ p, H p = none → Q (.ref p) (upd H p (.lst (xs ++ ys)))
theorem op_catG : OpR X (binaryOp .Add) (rCatG X.K) := by
  intro pins s σ H x y v u Q I rx ry h
  obtain ⟨a, b, xs, ys, rfl, rfl, ha, hb, hz, q⟩ := h
  cases rx
  cases ry
  obtain ⟨its, r, ⟨⟨cls, dd, data, sl⟩, n, ho, hc, hdd, hd⟩, hl⟩ := I.list ha
  obtain ⟨its2, r2, ⟨⟨cls2, dd2, data2, sl2⟩, n2, ho2, hc2, hdd2, hd2⟩, hl2⟩ := I.list hb
  simp only at hc hd hc2 hd2
  subst hc hd hc2 hd2
  have e1 := r.length
  have e2 := r2.length
  refine concat_meets ⟨_, ho, rfl⟩ ⟨_, ho2, rfl⟩ noFill_list_add seq_list_add PySem.F.slot_list_add PySem.F.entry_list_add (PySem.F.args_list_add_2 _ _)
    (list_addW a b its.toArray its2.toArray n n2 dd dd2 sl sl2 (by rw [List.size_toArray, List.size_toArray]; omega)) ⟨ho, ho2, ?_⟩
  have ea : its.toArray ++ its2.toArray = (its ++ its2).toArray := by simp
  rw [ea]
  exact ⟨.ref _, _, I.lnew (t' := s.toks) (r.append r2) (by rw [List.length_append]; exact hz), rfl, q _ I.fresh⟩
/-- xs[i], by values -/
def rGetG (K : PySem.W.Frag) : V → V → Hp → VK → Prop := fun x y H Q => ∃ p xs i v, x = .ref p ∧ y = .int i ∧ SqL K H p xs ∧ atI xs i = some v ∧ Q v H
end
/-! ### ints of any size -/
section
variable {X : Cx}
theorem op_mulG : OpR X (binaryOp .Mult) (rI IntMulOk fun i j => .int (i * j)) := opI fun _ _ _ _ _ _ _ hc q => mul_int q hc
theorem iop_mulG : OpR X (inplaceOp .Mult) (rI IntMulOk fun i j => .int (i * j)) := opI fun _ _ _ _ _ _ _ hc q => imul_int q hc
def CDivG (i j : Int) : Prop := 0 < j ∧ Builtin.divisionGoesByPylong i j = false
theorem op_fdivG : OpR X (binaryOp .FloorDiv) (rI CDivG fun i j => .int (i / j)) := opI fun i j _ _ _ _ _ hc q => by
  have h1 : (0 : Int) < j := hc.1
  exact floordiv_int (by omega) (by rw [Int.fdiv_eq_ediv_of_nonneg i (by omega)]; exact q) (.inl hc.2)
end
/-! ### sums, greatest and least items of tuples -/
section
variable {prog : Program} {w : World} {A : Around} {E : Value → Shared → Prop} {s : Shared} {l : Addr} {xs : Array (Int × Tok)}
theorem iter_intTup {Q : Value → Shared → Prop} (hl : s.heap.IsTuple l (intItems xs))
    (h : ∀ s₂ : Shared, s₂ = { s with heap := s.heap.push { cls := .type "tuple_iterator", data := .fields #[.ref l, .int 0 0] } } →
      (s₂.heap.IsTupleIter s.heap.objs.size l 0 ∧ s₂.heap.IsTuple l (intItems xs)) → (∀ b ∈ [s.heap.objs.size, l], b < s₂.heap.objs.size) → l ≠ s.heap.objs.size → Q (.ref s.heap.objs.size) s₂) :
    wpAny (model prog w) A (pyIter (.ref l)) Q E s := by
  have hlt : l < s.heap.objs.size := by obtain ⟨_, e, _⟩ := hl; exact Heap.lt_size e
  refine wpAny_pyIter_tuple hl (h _ rfl ⟨⟨_, Heap.get?_push_size _ rfl, rfl, rfl⟩, hl.at fun o e => Heap.get?_push_of_some _ e⟩ (fun b hb => ?_) (Nat.ne_of_lt hlt))
  show b < (s.heap.push _).objs.size
  rw [Heap.size_push]
  rcases List.mem_cons.mp hb with rfl | hb
  · exact Nat.lt_succ_self _
  · rcases List.mem_cons.mp hb with rfl | hb
    · exact Nat.lt_succ_of_lt hlt
    · cases hb
theorem old_keptT {h' : Heap} (hk : ∀ b o, b ∉ [s.heap.objs.size] → (s.heap.push { cls := .type "tuple_iterator", data := .fields #[.ref l, .int 0 0] }).get? b = some o → h'.get? b = some o) :
    ∀ b o, s.heap.get? b = some o → h'.get? b = some o := fun b o e => hk b o (by simpa using Nat.ne_of_lt (Heap.lt_size e)) (Heap.get?_push_of_some _ e)
theorem sum_intTupG {Q : Value → Shared → Prop} (hh : A.handled = none) (hl : s.heap.IsTuple l (intItems xs))
    (h : ∀ h' tk t', (∀ b o, s.heap.get? b = some o → h'.get? b = some o) → Q (.int (preSum (numAt xs) xs.size) t') { s with heap := h', toks := tk }) :
    wpAny (model prog w) A (call (.builtin "sum") [.ref l]) Q E s := by
  refine call_sum_walkG (iter_intTup hl fun s₂ e st hfp hlI => ?_)
  subst e
  refine ⟨_, _, _, _, _, _, numAt xs, rfl, Walks.tuple (A := A.in1) hh _ l hlI (intItems xs), st, hfp, (fun _ _ => intItems_at), fun h' tk t' hk => ?_⟩
  have := h h' tk t' (old_keptT hk)
  simpa [intItems] using this
theorem max_intTup {Q : Value → Shared → Prop} (hh : A.handled = none) (hl : s.heap.IsTuple l (intItems xs)) (hne : 0 < xs.size)
    (h : ∀ v h' tk, (intItems xs)[argBest (fun i j => decide (numAt xs i > numAt xs j)) (xs.size - 1)]? = some v → (∀ b o, s.heap.get? b = some o → h'.get? b = some o) → Q v { s with heap := h', toks := tk }) :
    wpAny (model prog w) A (call (.builtin "max") [.ref l]) Q E s := by
  refine call_max_walk (iter_intTup hl fun s₂ e st hfp hlI => ?_)
  subst e
  refine ⟨_, _, _, _, _, _, _, rfl, Walks.tuple (A := A.in1) hh _ l hlI (intItems xs), st, hfp, by simpa [intItems] using hne, CmpOf.ints_gt (numAt xs) (fun _ _ => intItems_at), fun v h' tk hP hk => ?_⟩
  exact h v h' tk (by simpa [intItems] using hP) (old_keptT hk)
theorem min_intTup {Q : Value → Shared → Prop} (hh : A.handled = none) (hl : s.heap.IsTuple l (intItems xs)) (hne : 0 < xs.size)
    (h : ∀ v h' tk, (intItems xs)[argBest (fun i j => decide (numAt xs i < numAt xs j)) (xs.size - 1)]? = some v → (∀ b o, s.heap.get? b = some o → h'.get? b = some o) → Q v { s with heap := h', toks := tk }) :
    wpAny (model prog w) A (call (.builtin "min") [.ref l]) Q E s := by
  refine call_min_walk (iter_intTup hl fun s₂ e st hfp hlI => ?_)
  subst e
  refine ⟨_, _, _, _, _, _, _, rfl, Walks.tuple (A := A.in1) hh _ l hlI (intItems xs), st, hfp, by simpa [intItems] using hne, CmpOf.ints_lt (numAt xs) (fun _ _ => intItems_at), fun v h' tk hP hk => ?_⟩
  exact h v h' tk (by simpa [intItems] using hP) (old_keptT hk)
end
section
variable {X : Cx}
def rSumT (K : PySem.W.Frag) : List V → Hp → VK → Prop := fun vs H Q => ∃ (a : Addr) (ns : List Int), vs = [V.ref a] ∧ (SqT K H a (ns.map V.int) ∨ SqL K H a (ns.map V.int)) ∧ Q (.int ns.sum) H
theorem cr_sumT (hc : X.calm = true) : CallR X (.builtin "sum") (rSumT X.K) := by
  intro pins s σ H vs us Q I r h
  obtain ⟨a, ns, rfl, hs, q⟩ := h
  rcases hs with hs | hs
  · obtain ⟨its, rv, ht, _⟩ := I.tuple hs
    rw [Vals.ref1 r]
    have hi := rv.ints
    obtain ⟨xs, e⟩ := hi.allInts.items
    have hn : numsOf (intItems xs).toList = ns := by rw [← e]; exact hi.numsOf
    rw [nums_intItems] at hn
    rw [e] at ht
    refine sum_intTupG (I.ok.hd hc) ht fun h' tk t' hk => ?_
    refine ⟨.int _, H, I.kept hk, ⟨t', ?_⟩, q⟩
    rw [preSum_eq, List.take_of_length_le (by simp), hn]
  · exact cr_sum hc pins s σ H _ us Q I r ⟨a, ns, rfl, hs, q⟩
def rMaxT (K : PySem.W.Frag) : List V → Hp → VK → Prop := fun vs H Q => ∃ (a : Addr) (ns : List Int), vs = [V.ref a] ∧ (SqT K H a (ns.map V.int) ∨ SqL K H a (ns.map V.int)) ∧ 0 < ns.length ∧ ∀ m, m ∈ ns → (∀ y, y ∈ ns → y ≤ m) → Q (.int m) H
def rMinT (K : PySem.W.Frag) : List V → Hp → VK → Prop := fun vs H Q => ∃ (a : Addr) (ns : List Int), vs = [V.ref a] ∧ (SqT K H a (ns.map V.int) ∨ SqL K H a (ns.map V.int)) ∧ 0 < ns.length ∧ ∀ m, m ∈ ns → (∀ y, y ∈ ns → m ≤ y) → Q (.int m) H
theorem cr_maxT (hc : X.calm = true) : CallR X (.builtin "max") (rMaxT X.K) := by
  intro pins s σ H vs us Q I r h
  obtain ⟨a, ns, rfl, hs, hne, q⟩ := h
  rcases hs with hs | hs
  · obtain ⟨its, rv, ht, _⟩ := I.tuple hs
    rw [Vals.ref1 r]
    have hi := rv.ints
    obtain ⟨xs, e⟩ := hi.allInts.items
    have hn : numsOf (intItems xs).toList = ns := by rw [← e]; exact hi.numsOf
    rw [nums_intItems] at hn
    subst hn
    rw [e] at ht
    have hsz : 0 < xs.size := by simpa using hne
    refine max_intTup (I.ok.hd hc) ht hsz fun v h' tk hv hk => ?_
    obtain ⟨t, rfl⟩ := intItems_at hv
    obtain ⟨h1, h2⟩ := argBest_gt (numAt xs) (xs.size - 1)
    refine ⟨.int _, H, I.kept hk, ⟨t, rfl⟩, q _ ?_ fun a ha => ?_⟩
    · rw [numAt_eq]; exact PySem.getD_mem (by rw [List.length_map, Array.length_toList]; omega)
    · obtain ⟨j, hj, rfl⟩ := mem_getD ha
      rw [List.length_map, Array.length_toList] at hj
      have := h2 j (by omega)
      rw [numAt_eq, numAt_eq] at this
      rw [numAt_eq]
      exact this
  · exact cr_max hc pins s σ H _ us Q I r ⟨a, ns, rfl, hs, hne, q⟩
theorem cr_minT (hc : X.calm = true) : CallR X (.builtin "min") (rMinT X.K) := by
  intro pins s σ H vs us Q I r h
  obtain ⟨a, ns, rfl, hs, hne, q⟩ := h
  rcases hs with hs | hs
  · obtain ⟨its, rv, ht, _⟩ := I.tuple hs
    rw [Vals.ref1 r]
    have hi := rv.ints
    obtain ⟨xs, e⟩ := hi.allInts.items
    have hn : numsOf (intItems xs).toList = ns := by rw [← e]; exact hi.numsOf
    rw [nums_intItems] at hn
    subst hn
    rw [e] at ht
    have hsz : 0 < xs.size := by simpa using hne
    refine min_intTup (I.ok.hd hc) ht hsz fun v h' tk hv hk => ?_
    obtain ⟨t, rfl⟩ := intItems_at hv
    obtain ⟨h1, h2⟩ := argBest_lt (numAt xs) (xs.size - 1)
    refine ⟨.int _, H, I.kept hk, ⟨t, rfl⟩, q _ ?_ fun a ha => ?_⟩
    · rw [numAt_eq]; exact PySem.getD_mem (by rw [List.length_map, Array.length_toList]; omega)
    · obtain ⟨j, hj, rfl⟩ := mem_getD ha
      rw [List.length_map, Array.length_toList] at hj
      have := h2 j (by omega)
      rw [numAt_eq, numAt_eq] at this
      rw [numAt_eq]
      exact this
  · exact cr_min hc pins s σ H _ us Q I r ⟨a, ns, rfl, hs, hne, q⟩
end
/-! ### repr of data -/
section
variable {X : Cx}
def showOk (d : PyData) : Prop := d.showable = true ∧ d.hasDict = false ∧ d.depth ≤ 60 ∧ d.shown.length ≤ sizeLine
def rRepr (K : PySem.W.Frag) : List V → Hp → VK → Prop := fun xs H Q => ∃ v d, xs = [v] ∧ Dp K H v d ∧ showOk d ∧ Q (.str d.shown) H
theorem call_repr (hg : X.A.guards = some []) (hu : X.A.units + 61 < cLine) : CallR X (.builtin "repr") (rRepr X.K) := by
  intro pins s σ H xs us Q I r h
  obtain ⟨v, d, rfl, hd, ⟨h1, h2, h3, h4⟩, q⟩ := h
  obtain ⟨u, rfl, ru⟩ := vals1 r
  obtain ⟨as, rd⟩ := Dp.reads I d v u hd ru
  cases rd with
  | none => exact PySem.P.repr_of_none ⟨.str _, H, I.tok _, ⟨_, rfl⟩, q⟩
  | bool b => exact PySem.P.repr_of_bool ⟨.str _, H, I.tok _, ⟨_, rfl⟩, q⟩
  | int i t => exact PySem.P.repr_of_int (by simpa [PyData.showable] using h1) ⟨.str _, H, I.tok _, ⟨_, rfl⟩, q⟩
  | str x t => exact PySem.P.repr_of_str ⟨.str _, H, I.tok _, ⟨_, rfl⟩, q⟩ h4
  | list a1 a2 a3 a4 =>
    exact repr_of_reads' (.list a1 a2 a3 a4) h1 (fun e => by rw [h2] at e; cases e) hg (by omega) (fun _ _ e => e) (fun h' u tk hk => ⟨.str _, H, I.kept (t' := tk) hk, ⟨u, rfl⟩, q⟩) h4
  | tuple a1 a2 a3 a4 =>
    exact repr_of_reads' (.tuple a1 a2 a3 a4) h1 (fun e => by rw [h2] at e; cases e) hg (by omega) (fun _ _ e => e) (fun h' u tk hk => ⟨.str _, H, I.kept (t' := tk) hk, ⟨u, rfl⟩, q⟩) h4
  | dict a1 a2 a3 a4 a5 => simp [PyData.hasDict] at h2
end
end Nz

/-! defs and their calls, where no repr is on the way (so that repr may be called) -/
namespace Nz
open PySem PySem.Spec PyProof.Rows L2
section
variable {P : Program} {w : World} {K : PySem.W.Frag} {mg : Str → Option Value} {base : Heap}
/-- a def keeps its promise, wherever it is called from a place at which no repr runs -/
structure FnG (P : Program) (w : World) (K : PySem.W.Frag) (mg : Str → Option Value) (base : Heap) (k : Nat) (f : Addr) (fd : FuncData) (ps : List Str) (sp : Sp) : Prop where
  len : ∀ vs H Q, sp vs H Q E0 → vs.length = ps.length
  run : ∀ (A : Around) (outer : List Env) (s : Shared) (H : Hp) (args : Args) (us : List Value) (vs : List V) (Q : VK), Room k A → A.guards = some [] → Env0 P w K mg base A outer s H →
    BindsTo s fd args (ps.zip us) → Vals vs us → sp vs H Q E0 → codeAny (model P w) A (.call (.ref f) args) (CR CX0 outer P w H s Q E0) s
theorem FnG.mono {j k : Nat} {f : Addr} {fd : FuncData} {ps : List Str} {sp : Sp} (F : FnG P w K mg base j f fd ps sp) (h : j ≤ k) : FnG P w K mg base k f fd ps sp :=
  ⟨F.len, fun A outer s H args us vs Q hr => F.run A outer s H args us vs Q (hr.mono h)⟩
theorem guards_deeper {A : Around} {env : Env} (h : A.guards = some []) : (A.deeper env).guards = some [] := h
/-- a def of the text, by its body -/
theorem fnG_of {x qual : Str} {st : Stmt} {f : Addr} {fd : FuncData} {N ps : List Str} {k : Nat} {sp : Sp} (F : Fun K x qual st f fd) (S : FnScope N ps (defScope st)) (len : ∀ vs H Q, sp vs H Q E0 → vs.length = ps.length)
    (hbody : ∀ (cdv : Value) (A : Around) (outer : List Env) (s : Shared) (H : Hp), Room k (A.deeper (envOfC qual (defScope st) s.heap.objs.size f cdv)) → A.guards = some [] →
      ∃ t, PSs (cxOf CX0 P w K mg base N qual (defScope st) f cdv A outer s H E0).nox (defBody st) t ∧ ∀ (vs : List V) (Q : VK), sp vs H Q E0 → t { nx := fun _ H' => Q .non H', rt := Q } (L2.start N vs) H) :
    FnG P w K mg base (k + 1) f fd ps sp := by
  obtain ⟨oc, od, kV, doc, pm, an, cdv, ct, osl, rfl, lk, hcd⟩ := F.ex
  refine ⟨len, fun A outer s H args us vs Q hr hgd e0 hb r hsp => ?_⟩
  have hl := len _ _ _ hsp
  have kept : ∀ b o, base.get? b = some o → s.heap.get? b = some o := fun b o e => (e0.bs b o e).1
  have KX : K.In s.heap := e0.mod.kin.keeps kept
  have pk : ∀ y ∈ ps.zip us, (defScope st).names.lookup y.1 = some .local ∨ ((defScope st).names.lookup y.1 = some .cell ∧ ((cellsFrom (s.heap.objs.size + 1) (defScope st).names []).lookup y.1).isSome = true) := by
    intro y hy
    obtain ⟨n, v⟩ := y
    cases S.par n (List.of_mem_zip hy).1 with
    | inl q => exact .inl q
    | inr q => exact .inr ⟨q, PySem.W.cellsFrom_some _ _ _ (.inl q)⟩
  apply codeAny_call_function hr.depth (KX _ _ lk) rfl S.co S.gen rfl (PySem.W.codeRec_of KX hcd)
  apply hb
  refine wpAny_newFunctionEnv_cells S.kind pk fun env he s1 x => ?_
  subst he
  refine ⟨(e0.mod.nolimit.keeps kept).keeps x.toInCall.keep, codeAny_func ?_⟩
  obtain ⟨t, ht, hq⟩ := hbody cdv A outer s H (hr.deeper _) hgd
  have I := inv_start (CX := CX0) (E := E0) (cd := cdv) (qual := qual) S hr.hd e0 hl r x
  refine wpAny_mono (ht.nox.run [] s1 _ H _ I (hq vs Q hsp)) (fun fl s' hs => ?_) fun e s' hs => hs
  match fl, hs with
  | .ret u, ⟨v, σ', H', J, rv, q⟩ => exact ⟨v, H', J.os, J.bare, J.base, J.hok, rv, q⟩
  | .next, ⟨σ', H', J, q⟩ => exact ⟨V.non, H', J.os, J.bare, J.base, J.hok, rfl, q⟩
  | .brk, ⟨_, _, _, q⟩ => exact q.elim
  | .cont, ⟨_, _, _, q⟩ => exact q.elim
/-- a def that is called by its name -/
structure Cl (P : Program) (w : World) (K : PySem.W.Frag) (mg : Str → Option Value) (base : Heap) (k : Nat) (x : Str) (ps : List Str) (sp : Sp) : Prop where
  ex : ∃ f fd, FnG P w K mg base k f fd ps sp ∧ mg x = some (.ref f) ∧ PySem.W.keepIn K (.ref f) = true ∧ Binds K fd ps []
/-- where a def of the text stands behind the top -/
structure Fd (K : PySem.W.Frag) (mg : Str → Option Value) (x : Str) (st : Stmt) : Prop where
  ex : ∃ f fd, Fun K x x st f fd ∧ mg x = some (.ref f)
theorem Cl.mono {j k : Nat} {x : Str} {ps : List Str} {sp : Sp} (C : Cl P w K mg base j x ps sp) (h : j ≤ k) : Cl P w K mg base k x ps sp := by
  obtain ⟨f, fd, F, r⟩ := C.ex
  exact ⟨f, fd, F.mono h, r⟩
end
section
variable {X : Cx} {k : Nat} {x : Str} {ps : List Str} {sp : Sp} {e : Expr} {es : List Expr} {t : TA} {p pos : Pos}
theorem run_fnG {f : Addr} {fd : FuncData} {pins : List (Addr × Obj)} {σ : L2.St} {H : Hp} {s : Shared} {Q : VK} {us : List Value} {vs : List V} (F : FnG X.prog X.w X.K X.mg X.base k f fd ps sp) (hr : Room k X.A) (hgd : X.A.guards = some []) (hb : Binds X.K fd ps [])
    (I : L2.Inv X pins σ H s) (r : Vals vs us) (h : sp vs H Q E0) : wpAny (model X.prog X.w) X.A (call (.ref f) us) (EP X pins σ Q) X.xe s := by
  have hl : (us ++ []).length = ps.length := by rw [List.append_nil, ← r.length]; exact F.len _ _ _ h
  have hb2 := hb s us I.kIn hl
  rw [List.append_nil] at hb2
  apply wpAny_call
  refine codeAny_mono (F.run X.A X.stack s H ⟨us, []⟩ us vs Q hr hgd I.env0 hb2 r h) fun q s' hq => ?_
  match q, hq with
  | .error _, hq => exact hq.elim
  | .ok (.ret u), hq => exact I.after hq
  | .ok .next, hq => exact hq.elim
  | .ok .brk, hq => exact hq.elim
  | .ok .cont, hq => exact hq.elim
theorem pe_cl (C : Cl X.prog X.w X.K X.mg X.base k x ps sp) (hr : Room k X.A) (hgd : X.A.guards = some []) (hg : Gl X x) (ha : PA X (e :: es) t)
    (hdb : (x == ("__debug__" : Str)) = false := by decide) (he : starEach (e :: es) X.env = (false, eval e X.env) :: starEach es X.env := by rfl) (hpl : (backTo pos (starEach es X.env)).any (·.1) = false := by rfl) :
    PE X (.Call (.Name x p) (e :: es) [] pos) (tCall sp [] E0 t) := by
  obtain ⟨f, fd, F, hm, hk, hb⟩ := C.ex
  refine ⟨fun pins s σ H Q I h => ?_⟩
  apply wpAny_Call_Name_kw
  apply ld_glob I hg hm ?_ hdb
  refine PySem.W.callWith_K (h₀ := X.base) I.ok.mod.kin hk (thn (ha.run pos pins s σ H _ I h) fun us s1 h1 => ?_) he hpl
  obtain ⟨vs, H1, I1, r, q⟩ := h1
  rw [List.append_nil] at q
  exact ⟨I1.kIn, run_fnG F hr hgd hb I1 r q⟩
end
end Nz

/-! typed data, and the rules for it that gen.py names -/
namespace Nz
open PySem PySem.Spec PyProof.Rows L2 RZ

/-! ### encodings -/
abbrev eQ (r : Rat) : PyData := .tuple [.int r.num, .int (r.den : Int)]
abbrev eT {α : Type} (f : α → PyData) (l : List α) : PyData := .tuple (l.map f)
abbrev eL {α : Type} (f : α → PyData) (l : List α) : PyData := .list (l.map f)
abbrev eP {α β : Type} (f : α → PyData) (g : β → PyData) (p : α × β) : PyData := .tuple [f p.1, g p.2]
abbrev eP3 {α β γ : Type} (f : α → PyData) (g : β → PyData) (h : γ → PyData) (p : α × β × γ) : PyData := .tuple [f p.1, g p.2.1, h p.2.2]
abbrev eP4 {α β γ δ : Type} (f : α → PyData) (g : β → PyData) (h : γ → PyData) (k : δ → PyData) (p : α × β × γ × δ) : PyData := .tuple [f p.1, g p.2.1, h p.2.2.1, k p.2.2.2]
def eO {α : Type} (f : α → PyData) : Option α → PyData
  | none => .none
  | some a => f a
/-- an item at a place of any sign -/
def ixG {α : Type} [Inhabited α] (xs : List α) (i : Int) : α := (atI xs i).getD default
def InB (n : Nat) (i : Int) : Prop := -(n : Int) ≤ i ∧ i < n
theorem atI_ixG {α : Type} [Inhabited α] {xs : List α} {i : Int} (h : InB xs.length i) : atI xs i = some (ixG xs i) := by
  unfold ixG
  cases e : atI xs i with
  | some a => rfl
  | none =>
    exfalso
    unfold atI ixN at e
    obtain ⟨h1, h2⟩ := h
    by_cases h0 : 0 ≤ i
    · rw [if_pos h0, if_pos h2] at e
      rw [Option.bind_some, List.getElem?_eq_none_iff] at e
      omega
    · rw [if_neg h0, if_pos h1, Option.bind_some, List.getElem?_eq_none_iff] at e
      omega
theorem atI_map {α β : Type} (f : α → β) (xs : List α) (i : Int) : atI (xs.map f) i = (atI xs i).map f := by
  unfold atI
  rw [List.length_map]
  cases ixN xs.length i with
  | none => rfl
  | some j => rw [Option.bind_some, Option.bind_some, List.getElem?_map]
theorem ixG_nat {α : Type} [Inhabited α] {xs : List α} {j : Nat} {v : α} (h : xs[j]? = some v) : ixG xs (j : Int) = v := by
  unfold ixG; rw [atI_nat h]; rfl
theorem ixG_last {α : Type} [Inhabited α] (xs : List α) (v : α) : ixG (xs ++ [v]) (-1) = v := by
  unfold ixG; rw [atI_last]; rfl
def cutX {α : Type} (xs : List α) (lo hi : Option Int) : List α := (xs.drop (HT.sIx xs.length 0 lo)).take (HT.sIx xs.length xs.length hi - HT.sIx xs.length 0 lo)
theorem cutD_map {α : Type} (f : α → PyData) (xs : List α) (lo hi : Option Int) : cutD (xs.map f) lo hi = (cutX xs lo hi).map f := by
  unfold cutD cutX
  rw [List.length_map, List.map_take, List.map_drop]
def maxOf (xs : List Int) : Int := xs.foldl max (xs.headD 0)
def minOf (xs : List Int) : Int := xs.foldl min (xs.headD 0)
theorem foldl_max_ge (l : List Int) : ∀ a, a ≤ l.foldl max a ∧ ∀ y ∈ l, y ≤ l.foldl max a := by
  induction l with
  | nil => intro a; exact ⟨Int.le_refl _, fun y h => nomatch h⟩
  | cons x l ih =>
    intro a
    obtain ⟨h1, h2⟩ := ih (max a x)
    refine ⟨by show a ≤ l.foldl max (max a x); omega, fun y hy => ?_⟩
    show y ≤ l.foldl max (max a x)
    rcases List.mem_cons.mp hy with e | e
    · rw [e]; omega
    · exact h2 y e
theorem foldl_max_mem (l : List Int) : ∀ a, l.foldl max a = a ∨ l.foldl max a ∈ l := by
  induction l with
  | nil => intro a; exact .inl rfl
  | cons x l ih =>
    intro a
    show l.foldl max (max a x) = a ∨ l.foldl max (max a x) ∈ x :: l
    rcases ih (max a x) with h | h
    · rcases Int.le_total a x with q | q
      · exact .inr (by rw [h, Int.max_eq_right q]; exact List.mem_cons_self ..)
      · exact .inl (by rw [h, Int.max_eq_left q])
    · exact .inr (List.mem_cons_of_mem _ h)
theorem maxOf_mem {l : List Int} (h : 0 < l.length) : maxOf l ∈ l := by
  cases l with
  | nil => simp at h
  | cons x l =>
    unfold maxOf
    rcases foldl_max_mem (x :: l) x with e | e
    · show (x :: l).foldl max x ∈ _
      rw [e]; exact List.mem_cons_self ..
    · exact e
theorem maxOf_ge {l : List Int} {y : Int} (h : y ∈ l) : y ≤ maxOf l := (foldl_max_ge l _).2 y h
theorem foldl_min_le (l : List Int) : ∀ a, l.foldl min a ≤ a ∧ ∀ y ∈ l, l.foldl min a ≤ y := by
  induction l with
  | nil => intro a; exact ⟨Int.le_refl _, fun y h => nomatch h⟩
  | cons x l ih =>
    intro a
    obtain ⟨h1, h2⟩ := ih (min a x)
    refine ⟨by show l.foldl min (min a x) ≤ a; omega, fun y hy => ?_⟩
    show l.foldl min (min a x) ≤ y
    rcases List.mem_cons.mp hy with e | e
    · rw [e]; omega
    · exact h2 y e
theorem foldl_min_mem (l : List Int) : ∀ a, l.foldl min a = a ∨ l.foldl min a ∈ l := by
  induction l with
  | nil => intro a; exact .inl rfl
  | cons x l ih =>
    intro a
    show l.foldl min (min a x) = a ∨ l.foldl min (min a x) ∈ x :: l
    rcases ih (min a x) with h | h
    · rcases Int.le_total a x with q | q
      · exact .inl (by rw [h, Int.min_eq_left q])
      · exact .inr (by rw [h, Int.min_eq_right q]; exact List.mem_cons_self ..)
    · exact .inr (List.mem_cons_of_mem _ h)
theorem minOf_mem {l : List Int} (h : 0 < l.length) : minOf l ∈ l := by
  cases l with
  | nil => simp at h
  | cons x l =>
    unfold minOf
    rcases foldl_min_mem (x :: l) x with e | e
    · show (x :: l).foldl min x ∈ _
      rw [e]; exact List.mem_cons_self ..
    · exact e
theorem minOf_le {l : List Int} {y : Int} (h : y ∈ l) : minOf l ≤ y := (foldl_min_le l _).2 y h
/-! ### a product's and a quotient's sizes -/
theorem mul_l {i j : Int} (h : -(2 ^ 64) < i) (h2 : i < 2 ^ 64) : IntMulOk i j := IntMulOk.of_left (intBits_le_64 h h2)
theorem mul_r {i j : Int} (h : -(2 ^ 64) < j) (h2 : j < 2 ^ 64) : IntMulOk i j := IntMulOk.of_right (intBits_le_64 h h2)
theorem mul_b {i j : Int} {a b : Nat} (ha : i.natAbs < 2 ^ a) (hb : j.natAbs < 2 ^ b) (h : a + b ≤ 900000 := by decide) : IntMulOk i j := by
  have x : i.natAbs.log2 < a + 1 := by
    by_cases z : i.natAbs = 0
    · rw [z]; simp
    · have := (Nat.log2_lt z).mpr ha; omega
  have y : j.natAbs.log2 < b + 1 := by
    by_cases z : j.natAbs = 0
    · rw [z]; simp
    · have := (Nat.log2_lt z).mpr hb; omega
  exact L2.CMulW.ok (by unfold L2.CMulW; omega)
theorem div_small {i j : Int} (h : 0 < j) (h2 : j < 1073741824) : CDivG i j := ⟨h, PyProof.noPylong_small (by omega)⟩
theorem div_b {i j : Int} (h : 0 < j) (h2 : j.natAbs < 2 ^ 8999) : CDivG i j := ⟨h, PyProof.noPylong_of_log2 (by
  have := (Nat.log2_lt (show j.natAbs ≠ 0 by omega)).mpr h2
  omega)⟩

section
variable {c : Cz} {ρ ρ1 ρ2 ρ3 : List Sl} {ta tb te tx : TE} {t u : TT} {d d1 d2 d3 : PyData} {T : Tm} {H H' : Hp} {σ : L2.St}
theorem spP_len {K : PySem.W.Frag} {Rl : List PyData → PyData → Prop} {ps : List Str} (h : ∀ ds d, Rl ds d → ds.length = ps.length) : ∀ vs H Q, SpP K Rl vs H Q E0 → vs.length = ps.length := fun vs H Q ⟨S, ds, d, _, a, r, _⟩ => (dpa_length a).trans (h ds d r)
theorem ed_ite {α : Type} {e : α → PyData} {x y : α} {b : Bool} (h : Et c ρ t b ρ1) (h1 : b = true → Ed c ρ1 ta (e x) ρ2) (h2 : b = false → Ed c ρ1 tb (e y) ρ2) : Ed c ρ (tIf t ta tb) (e (if b = true then x else y)) ρ2 :=
  ed_if h (fun q => by rw [if_pos q]; exact h1 q) (fun q => by rw [if_neg (by rw [q]; decide)]; exact h2 q)
/-! #### == of typed data -/
theorem eqv_int (i j : Int) : PyData.eqv (.int i) (.int j) = decide (i = j) := by
  unfold PyData.eqv; by_cases h : i = j <;> simp [h]
theorem rat_ext {r q : Rat} (h : r.num = q.num) (h2 : (r.den : Int) = (q.den : Int)) : r = q := Rat.ext h (by omega)
theorem eqv_Q (r q : Rat) : PyData.eqv (eQ r) (eQ q) = decide (r = q) := by
  by_cases h : r = q
  · subst h; simp [PyData.eqv, PyData.eqvAll]
  · have : ¬ (r.num = q.num ∧ (r.den : Int) = (q.den : Int)) := fun z => h (rat_ext z.1 z.2)
    simp only [PyData.eqv, PyData.eqvAll, h, decide_false, Bool.and_true]
    by_cases e : r.num = q.num
    · have e2 : ¬ (r.den : Int) = (q.den : Int) := fun z => this ⟨e, z⟩
      simp only [e, beq_self_eq_true, Bool.true_and]
      exact beq_eq_false_iff_ne.mpr e2
    · rw [show (r.num == q.num) = false from beq_eq_false_iff_ne.mpr e, Bool.false_and]
theorem shaped_int (i : Int) : SeqAt.shaped (.int i) = true := rfl
theorem shaped_bool (b : Bool) : SeqAt.shaped (.bool b) = true := rfl
theorem shaped_Q (r : Rat) : SeqAt.shaped (eQ r) = true := rfl
theorem ed_eqI {i j : Int} (ha : Ed c ρ ta (.int i) ρ1) (hb : Ed c ρ1 tb (.int j) ρ2) : Ed c ρ (tOp (rEqD c.K) ta tb) (.bool (decide (i = j))) ρ2 := ed_is (ed_eq ha hb rfl rfl) (congrArg PyData.bool (eqv_int i j))
theorem ed_neI {i j : Int} (ha : Ed c ρ ta (.int i) ρ1) (hb : Ed c ρ1 tb (.int j) ρ2) : Ed c ρ (tOp (rNeD c.K) ta tb) (.bool (!decide (i = j))) ρ2 := ed_is (ed_ne ha hb rfl rfl) (congrArg (fun b => PyData.bool (!b)) (eqv_int i j))
theorem ed_eqQ {i j : Rat} (ha : Ed c ρ ta (eQ i) ρ1) (hb : Ed c ρ1 tb (eQ j) ρ2) : Ed c ρ (tOp (rEqD c.K) ta tb) (.bool (decide (i = j))) ρ2 := ed_is (ed_eq ha hb rfl rfl) (congrArg PyData.bool (eqv_Q i j))
theorem ed_neQ {i j : Rat} (ha : Ed c ρ ta (eQ i) ρ1) (hb : Ed c ρ1 tb (eQ j) ρ2) : Ed c ρ (tOp (rNeD c.K) ta tb) (.bool (!decide (i = j))) ρ2 := ed_is (ed_ne ha hb rfl rfl) (congrArg (fun b => PyData.bool (!b)) (eqv_Q i j))
theorem eqv_bool (i j : Bool) : PyData.eqv (.bool i) (.bool j) = decide (i = j) := by cases i <;> cases j <;> rfl
theorem ed_eqB {i j : Bool} (ha : Ed c ρ ta (.bool i) ρ1) (hb : Ed c ρ1 tb (.bool j) ρ2) : Ed c ρ (tOp (rEqD c.K) ta tb) (.bool (decide (i = j))) ρ2 := ed_is (ed_eq ha hb rfl rfl) (congrArg PyData.bool (eqv_bool i j))
theorem ed_neB {i j : Bool} (ha : Ed c ρ ta (.bool i) ρ1) (hb : Ed c ρ1 tb (.bool j) ρ2) : Ed c ρ (tOp (rNeD c.K) ta tb) (.bool (!decide (i = j))) ρ2 := ed_is (ed_ne ha hb rfl rfl) (congrArg (fun b => PyData.bool (!b)) (eqv_bool i j))
/-! #### lists and tuples of typed data -/
theorem ed_lenTX {α : Type} {f : α → PyData} {l : List α} (h : Ed c ρ te (.tuple (l.map f)) ρ1) : Ed c ρ (tCB (rLenS c.K) (tCons te tNil)) (.int (l.length : Int)) ρ1 := ed_is (ed_lenT h) (by rw [List.length_map])
theorem ed_lenLX {α : Type} {f : α → PyData} {l : List α} (h : Ed c ρ te (.list (l.map f)) ρ1) : Ed c ρ (tCB (rLenS c.K) (tCons te tNil)) (.int (l.length : Int)) ρ1 := ed_is (ed_lenL h) (by rw [List.length_map])
theorem ix_some {α : Type} [Inhabited α] {f : α → PyData} {l : List α} {i : Int} (h : InB l.length i) : atI (l.map f) i = some (f (ixG l i)) := by rw [atI_map, atI_ixG h]; rfl
theorem ed_ixTX {α : Type} [Inhabited α] {f : α → PyData} {l : List α} {i : Int} (ha : Ed c ρ ta (.tuple (l.map f)) ρ1) (hb : Ed c ρ1 tb (.int i) ρ2) (h : InB l.length i) : Ed c ρ (tOp (rIxT c.K) ta tb) (f (ixG l i)) ρ2 := ed_ixT ha hb (ix_some h)
theorem ed_ixLX {α : Type} [Inhabited α] {f : α → PyData} {l : List α} {i : Int} (ha : Ed c ρ ta (.list (l.map f)) ρ1) (hb : Ed c ρ1 tb (.int i) ρ2) (h : InB l.length i) : Ed c ρ (tOp (rIxL c.K) ta tb) (f (ixG l i)) ρ2 := ed_ixL ha hb (ix_some h)
theorem ed_ixMX {α : Type} [Inhabited α] {f : α → PyData} {xs : List α} {i : Int} {j : Nat} {l : Bool} {a : Addr} (hb : Ed c ρ tb (.int i) ρ1) (ha : ρ1[j]? = some (.mu l a (.lst (xs.map f)))) (ha0 : ∃ l o, ρ[j]? = some (.mu l a o)) (h : InB xs.length i) :
    Ed c ρ (tOp (rIxL c.K) (tVar j) tb) (f (ixG xs i)) ρ1 := ed_ixM hb ha ha0 (ix_some h)
theorem ed_sliceT {α : Type} {f : α → PyData} {l : List α} {tl th : TO} {lo hi : Option Int} (ha : Ed c ρ ta (.tuple (l.map f)) ρ1) (hl : Eo c ρ1 tl lo ρ2) (hh : Eo c ρ2 th hi ρ3) : Ed c ρ (tSl (rSlF c.K) ta tl th) (.tuple ((cutX l lo hi).map f)) ρ3 := fun T σ H W Q q =>
  ha T σ H W _ fun v H1 W1 => hl _ σ H1 W1 _ fun H2 W2 => hh _ σ H2 W2 _ fun H3 W3 => by
    obtain ⟨a, xs, rfl, hs, h2⟩ := dp_tup W3.dp
    have hx := dpa_length h2
    have hc := cut_dp h2 lo hi
    rw [cutD_map] at hc
    refine ⟨a, xs, rfl, (ex_p (hide_ex _ _) hs).sq, fun hw => ?_, fun _ p o z hp => q _ _ (tup_new W3.pop hc z hp)⟩
    have e : cutX l lo hi = l := by
      rw [List.length_map] at hx
      rw [hx] at hw
      unfold cutX
      rw [hw.1, hw.2, List.drop_zero, Nat.sub_zero, List.take_length]
    rw [e] at q
    exact q _ H3 W3
theorem el_sliceX {α : Type} {f : α → PyData} {l : List α} {tl th : TO} {lo hi : Option Int} (ha : Ed c ρ ta (.list (l.map f)) ρ1) (hl : Eo c ρ1 tl lo ρ2) (hh : Eo c ρ2 th hi ρ3) : EdL c ρ (tSl (rSlL c.K) ta tl th) ((cutX l lo hi).map f) ρ3 :=
  el_is (el_slice ha hl hh) (cutD_map f l lo hi)
theorem ed_revT {α : Type} {f : α → PyData} {l : List α} (h : Ed c ρ te (.tuple (l.map f)) ρ1) : Ed c ρ (tRevT c.K te) (.tuple (l.reverse.map f)) ρ1 := fun T σ H W Q q => h T σ H W _ fun v H1 W1 => by
  obtain ⟨a, xs, rfl, hs, h2⟩ := dp_tup W1.dp
  refine ⟨a, xs, rfl, (ex_p (hide_ex _ _) hs).sq, fun p o z hp => q _ _ (tup_new W1.pop ?_ z hp)⟩
  rw [List.map_reverse]
  exact dpa_rev h2
theorem el_revL {α : Type} {f : α → PyData} {l : List α} (h : Ed c ρ te (.list (l.map f)) ρ1) : EdL c ρ (tRevL c.K te) (l.reverse.map f) ρ1 := fun T σ H W Q q => h T σ H W _ fun v H1 W1 => by
  obtain ⟨a, xs, rfl, hs, h2⟩ := dp_lst W1.dp
  refine ⟨a, xs, rfl, ex_l (hide_ex _ _) hs, fun p hp => ?_⟩
  have h3 := dpa_rev h2
  rw [← List.map_reverse] at h3
  obtain ⟨x1, x2, x3, x4⟩ := el_new W1.pop h3 hp
  exact q p _ x1 x2 x3 x4
theorem ed_catT {α : Type} {f : α → PyData} {l m : List α} (ha : Ed c ρ ta (.tuple (l.map f)) ρ1) (hb : Ed c ρ1 tb (.tuple (m.map f)) ρ2) (hz : l.length + m.length ≤ 100000) : Ed c ρ (tOp (rCatF c.K) ta tb) (.tuple ((l ++ m).map f)) ρ2 :=
  ed_op ha hb fun T σ H x y W hx hy Q q => by
    obtain ⟨a, xs, rfl, hs, h2⟩ := dp_tup hx
    obtain ⟨b, ys, rfl, hs', h3⟩ := dp_tup hy
    have lx := dpa_length h2
    have ly := dpa_length h3
    rw [List.length_map] at lx ly
    refine ⟨a, b, xs, ys, rfl, rfl, (ex_p (hide_ex _ _) hs).sq, (ex_p (hide_ex _ _) hs').sq, ?_, fun e => ?_, fun _ e => ?_, fun _ _ p o z hp => q _ _ (tup_new W ?_ z hp)⟩
    · rw [lx, ly]; exact Nat.le_trans hz (by decide)
    · have : l = [] := by rw [e] at lx; exact List.length_eq_zero_iff.mp lx.symm
      subst this
      exact q _ H (W.push hy)
    · have : m = [] := by rw [e] at ly; exact List.length_eq_zero_iff.mp ly.symm
      subst this
      rw [List.append_nil] at q
      exact q _ H (W.push hx)
    · rw [List.map_append]; exact dpa_append h2 h3
theorem el_cat {α : Type} {f : α → PyData} {l m : List α} (ha : Ed c ρ ta (.list (l.map f)) ρ1) (hb : Ed c ρ1 tb (.list (m.map f)) ρ2) (hz : l.length + m.length ≤ 100000) : EdL c ρ (tOp (rCatG c.K) ta tb) ((l ++ m).map f) ρ2 := fun T σ H W Q q =>
  ha T σ H W _ fun v H1 W1 => hb _ σ H1 W1 _ fun w H2 W2 => by
    obtain ⟨a, xs, rfl, hs, h2⟩ := dp_lst W2.pop.dp
    obtain ⟨b, ys, rfl, hs', h3⟩ := dp_lst W2.dp
    have lx := dpa_length h2
    have ly := dpa_length h3
    rw [List.length_map] at lx ly
    refine ⟨a, b, xs, ys, rfl, rfl, ex_l (hide_ex _ _) hs, ex_l (hide_ex _ _) hs', by rw [lx, ly]; exact Nat.le_trans hz (by decide), fun p hp => ?_⟩
    have h4 := dpa_append h2 h3
    rw [← List.map_append] at h4
    obtain ⟨x1, x2, x3, x4⟩ := el_new W2.pop.pop h4 hp
    exact q p _ x1 x2 x3 x4
/-- [..] * n -/
theorem el_rep {α : Type} {f : α → PyData} {l : List α} {k : Int} (ha : EdL c ρ ta (l.map f) ρ1) (hb : ∀ S B, Ed (c.at S B) ρ1 tb (.int k) ρ1) (hk : -1000000 ≤ k ∧ k ≤ 100000 ∧ l.length * k.toNat ≤ 100000) : EdL c ρ (tOp rRep ta tb) ((List.replicate k.toNat l).flatten.map f) ρ1 := fun T σ H W Q q =>
  ha T σ H W _ fun p H1 hB hn mo W1 => by
    obtain ⟨xs, hx, dx⟩ := mo
    have hs := W.sub
    have nS : p ∉ c.S0 := fun m => hn (List.mem_append_left _ m)
    have W2 : Wd (c.at (p :: c.S0) (upd c.B p (.lst xs))) (xs.zip (l.map f) ++ T) H1 σ ρ1 := (W1.pin hx hB hs nS).pushAll dx
    refine hb _ _ _ σ H1 W2 _ fun v H2 W3 => ?_
    have lx := dpa_length dx
    obtain ⟨h2, W4⟩ := W3.unpin hB (fun m => nS (hs p m))
    have dx2 := Wd.allOf (T := T) lx W4.pop
    have ez : xs.length * k.toNat ≤ 100000 := by rw [lx, List.length_map]; exact hk.2.2
    refine ⟨p, k, xs, rfl, dp_int W4.dp, h2, by omega, by omega, Nat.le_trans ez (by decide), fun r hr => ?_⟩
    have W5 : Wd c T H2 σ ρ1 := (W4.pop.tmps fun q hq => List.mem_append_right _ hq).unhide hs
    have e3 : Ex (hide (hid (c.hidden p) ρ1) H2) (hide (hid c ρ1) H2) := hide_mono fun a o n h => ⟨fun m => n (List.mem_cons_of_mem _ m), h⟩
    have d3 := dpa_rep (dpam e3 dx2) k.toNat
    have em : (List.replicate k.toNat (l.map f)).flatten = (List.replicate k.toNat l).flatten.map f := by rw [List.map_flatten, List.map_replicate]
    rw [em] at d3
    obtain ⟨x1, x2, x3, x4⟩ := el_new W5 d3 hr
    exact q r _ x1 x2 x3 x4
theorem ed_sumT {l : List Int} (h : Ed c ρ te (.tuple (l.map .int)) ρ1) : Ed c ρ (tCB (rSumT c.K) (tCons te tNil)) (.int l.sum) ρ1 := fun T σ H W Q q => h T σ H W _ fun v H1 W1 => by
  obtain ⟨a, xs, rfl, hs, h2⟩ := dp_tup W1.dp
  have := dpaInts h2
  subst this
  exact ⟨a, l, rfl, .inl (ex_p (hide_ex _ _) hs).sq, q _ H1 (W1.pop.push (.int _))⟩
theorem ed_sumL {l : List Int} (h : Ed c ρ te (.list (l.map .int)) ρ1) : Ed c ρ (tCB (rSumT c.K) (tCons te tNil)) (.int l.sum) ρ1 := fun T σ H W Q q => h T σ H W _ fun v H1 W1 => by
  obtain ⟨a, xs, rfl, hs, h2⟩ := dp_lst W1.dp
  have := dpaInts h2
  subst this
  exact ⟨a, l, rfl, .inr (ex_l (hide_ex _ _) hs), q _ H1 (W1.pop.push (.int _))⟩
theorem max_un {l : List Int} {m : Int} (h1 : m ∈ l) (h2 : ∀ y, y ∈ l → y ≤ m) : m = maxOf l := by
  have := maxOf_ge h1
  have := h2 _ (maxOf_mem (List.length_pos_of_mem h1))
  omega
theorem min_un {l : List Int} {m : Int} (h1 : m ∈ l) (h2 : ∀ y, y ∈ l → m ≤ y) : m = minOf l := by
  have := minOf_le h1
  have := h2 _ (minOf_mem (List.length_pos_of_mem h1))
  omega
theorem ed_maxT {l : List Int} (h : Ed c ρ te (.tuple (l.map .int)) ρ1) (hl : 0 < l.length) : Ed c ρ (tCB (rMaxT c.K) (tCons te tNil)) (.int (maxOf l)) ρ1 := fun T σ H W Q q => h T σ H W _ fun v H1 W1 => by
  obtain ⟨a, xs, rfl, hs, h2⟩ := dp_tup W1.dp
  have := dpaInts h2
  subst this
  exact ⟨a, l, rfl, .inl (ex_p (hide_ex _ _) hs).sq, hl, fun m h3 h4 => by rw [max_un h3 h4]; exact q _ H1 (W1.pop.push (.int _))⟩
theorem ed_maxL {l : List Int} (h : Ed c ρ te (.list (l.map .int)) ρ1) (hl : 0 < l.length) : Ed c ρ (tCB (rMaxT c.K) (tCons te tNil)) (.int (maxOf l)) ρ1 := fun T σ H W Q q => h T σ H W _ fun v H1 W1 => by
  obtain ⟨a, xs, rfl, hs, h2⟩ := dp_lst W1.dp
  have := dpaInts h2
  subst this
  exact ⟨a, l, rfl, .inr (ex_l (hide_ex _ _) hs), hl, fun m h3 h4 => by rw [max_un h3 h4]; exact q _ H1 (W1.pop.push (.int _))⟩
theorem ed_minT {l : List Int} (h : Ed c ρ te (.tuple (l.map .int)) ρ1) (hl : 0 < l.length) : Ed c ρ (tCB (rMinT c.K) (tCons te tNil)) (.int (minOf l)) ρ1 := fun T σ H W Q q => h T σ H W _ fun v H1 W1 => by
  obtain ⟨a, xs, rfl, hs, h2⟩ := dp_tup W1.dp
  have := dpaInts h2
  subst this
  exact ⟨a, l, rfl, .inl (ex_p (hide_ex _ _) hs).sq, hl, fun m h3 h4 => by rw [min_un h3 h4]; exact q _ H1 (W1.pop.push (.int _))⟩
theorem ed_minL {l : List Int} (h : Ed c ρ te (.list (l.map .int)) ρ1) (hl : 0 < l.length) : Ed c ρ (tCB (rMinT c.K) (tCons te tNil)) (.int (minOf l)) ρ1 := fun T σ H W Q q => h T σ H W _ fun v H1 W1 => by
  obtain ⟨a, xs, rfl, hs, h2⟩ := dp_lst W1.dp
  have := dpaInts h2
  subst this
  exact ⟨a, l, rfl, .inr (ex_l (hide_ex _ _) hs), hl, fun m h3 h4 => by rw [min_un h3 h4]; exact q _ H1 (W1.pop.push (.int _))⟩
theorem ed_max2 {i j : Int} (ha : Ed c ρ ta (.int i) ρ1) (hb : Ed c ρ1 tb (.int j) ρ2) : Ed c ρ (tCB (fun xs H Q => ∃ i j, xs = [.int i, .int j] ∧ Q (.int (if j > i then j else i)) H) (tCons ta (tCons tb tNil))) (.int (if j > i then j else i)) ρ2 := fun T σ H W Q q =>
  ha T σ H W _ fun v H1 W1 => hb _ σ H1 W1 _ fun w H2 W2 => ⟨i, j, by rw [dp_int W2.pop.dp, dp_int W2.dp], q _ H2 (W2.pop.pop.push (.int _))⟩
theorem ed_min2 {i j : Int} (ha : Ed c ρ ta (.int i) ρ1) (hb : Ed c ρ1 tb (.int j) ρ2) : Ed c ρ (tCB (fun xs H Q => ∃ i j, xs = [.int i, .int j] ∧ Q (.int (if j < i then j else i)) H) (tCons ta (tCons tb tNil))) (.int (if j < i then j else i)) ρ2 := fun T σ H W Q q =>
  ha T σ H W _ fun v H1 W1 => hb _ σ H1 W1 _ fun w H2 W2 => ⟨i, j, by rw [dp_int W2.pop.dp, dp_int W2.dp], q _ H2 (W2.pop.pop.push (.int _))⟩
theorem ed_all {l : List Bool} (h : Ed c ρ te (.list (l.map .bool)) ρ1) : Ed c ρ (tCB (rAll c.K) (tCons te tNil)) (.bool (l.all id)) ρ1 := fun T σ H W Q q => h T σ H W _ fun v H1 W1 => by
  obtain ⟨a, xs, rfl, hs, h2⟩ := dp_lst W1.dp
  have := dpaBools h2
  subst this
  exact ⟨a, l, rfl, ex_l (hide_ex _ _) hs, q _ H1 (W1.pop.push (.bl _))⟩
theorem ed_any {l : List Bool} (h : Ed c ρ te (.list (l.map .bool)) ρ1) : Ed c ρ (tCB (rAny c.K) (tCons te tNil)) (.bool (l.any id)) ρ1 := fun T σ H W Q q => h T σ H W _ fun v H1 W1 => by
  obtain ⟨a, xs, rfl, hs, h2⟩ := dp_lst W1.dp
  have := dpaBools h2
  subst this
  exact ⟨a, l, rfl, ex_l (hide_ex _ _) hs, q _ H1 (W1.pop.push (.bl _))⟩
/-! #### isinstance, repr -/
def tyD : PyData → String
  | .none => "NoneType"
  | .bool _ => "bool"
  | .int _ => "int"
  | .str _ => "str"
  | .list _ => "list"
  | .tuple _ => "tuple"
  | .dict _ => "dict"
theorem tyx_of {v : V} (h : Dz c.K H v d) : TyX c.K H v (.type (tyD d)) := by
  cases h with
  | non => exact .base .non
  | bl b => exact .base (.bl b)
  | int i => exact .base (.int i)
  | str x => exact .base (.str x)
  | lst hs ha =>
    rcases hs with (hs | ⟨o, hs⟩) | ⟨o, its, n, h1, h2, _⟩
    · exact .base (.lst hs)
    · exact .base (.frz hs)
    · exact .kList h1 h2
  | tup hs ha =>
    rcases hs with ⟨o, hs, _⟩ | ⟨o, its, n, h1, h2, _⟩
    · exact .fTuple hs
    · exact .kTuple h1 h2
theorem ed_isi {n : String} {b : Bool} (h : Ed c ρ te d ρ1) (hk : kitB (tyD d) n = some b) : Ed c ρ (tCB (rIsi c.K) (tCons te (tCons (tC (.ty n)) tNil))) (.bool b) ρ1 := fun T σ H W Q q => h T σ H W _ fun v H1 W1 =>
  ⟨v, .ty n, _, _, b, rfl, .ty n, tyx_of (dpm (hide_ex _ _) W1.dp), kit_ty hk, q _ H1 (W1.pop.push (.bl _))⟩
def isi_int : PyData → Bool
  | .int _ => true
  | .bool _ => true
  | _ => false
def isi_bool : PyData → Bool
  | .bool _ => true
  | _ => false
theorem kit_int (d : PyData) : kitB (tyD d) "int" = some (isi_int d) := by
  cases d
  · exact (show kitB "NoneType" "int" = some false by decide +kernel)
  · exact (show kitB "bool" "int" = some true by decide +kernel)
  · exact (show kitB "int" "int" = some true by decide +kernel)
  · exact (show kitB "str" "int" = some false by decide +kernel)
  · exact (show kitB "list" "int" = some false by decide +kernel)
  · exact (show kitB "tuple" "int" = some false by decide +kernel)
  · exact (show kitB "dict" "int" = some false by decide +kernel)
theorem kit_bool (d : PyData) : kitB (tyD d) "bool" = some (isi_bool d) := by
  cases d
  · exact (show kitB "NoneType" "bool" = some false by decide +kernel)
  · exact (show kitB "bool" "bool" = some true by decide +kernel)
  · exact (show kitB "int" "bool" = some false by decide +kernel)
  · exact (show kitB "str" "bool" = some false by decide +kernel)
  · exact (show kitB "list" "bool" = some false by decide +kernel)
  · exact (show kitB "tuple" "bool" = some false by decide +kernel)
  · exact (show kitB "dict" "bool" = some false by decide +kernel)
theorem ed_isiD {n : String} {b : Bool} (h : Ed c ρ te d ρ1) (hk : kitB (tyD d) n = some b) : Ed c ρ (tCB (rIsi c.K) (tCons te (tCons (tC (.ty n)) tNil))) (.bool b) ρ1 := ed_isi h hk
theorem ed_repr (h : Ed c ρ te d ρ1) (hs : showOk d) : Ed c ρ (tCB (rRepr c.K) (tCons te tNil)) (.str d.shown) ρ1 := fun T σ H W Q q => h T σ H W _ fun v H1 W1 => ⟨v, d, rfl, dz_dp _ _ (dpm (hide_ex _ _) W1.dp), hs, q _ H1 (W1.pop.push (.str _))⟩
theorem et_truB {b : Bool} (h : Ed c ρ te (.bool b) ρ1) : Et c ρ (fun σ H Q => te σ H fun x H' => ∃ k, TruV c.K x H' k ∧ Q k H') b ρ1 := et_is (et_tru h) rfl
theorem et_truI {i : Int} (h : Ed c ρ te (.int i) ρ1) : Et c ρ (fun σ H Q => te σ H fun x H' => ∃ k, TruV c.K x H' k ∧ Q k H') (i != 0) ρ1 := et_is (et_tru h) rfl
theorem et_truL {α : Type} {f : α → PyData} {l : List α} (h : Ed c ρ te (.list (l.map f)) ρ1) : Et c ρ (fun σ H Q => te σ H fun x H' => ∃ k, TruV c.K x H' k ∧ Q k H') (!l.isEmpty) ρ1 := et_is (et_tru h) (by show (!(l.map f).isEmpty) = _; rw [List.isEmpty_map])
theorem et_truT {α : Type} {f : α → PyData} {l : List α} (h : Ed c ρ te (.tuple (l.map f)) ρ1) : Et c ρ (fun σ H Q => te σ H fun x H' => ∃ k, TruV c.K x H' k ∧ Q k H') (!l.isEmpty) ρ1 := et_is (et_tru h) (by show (!(l.map f).isEmpty) = _; rw [List.isEmpty_map])
/-! #### chains as tests -/
theorem et_chain {b : Bool} (h : Ed c ρ te (.bool b) ρ1) : Et c ρ (tTest te) b ρ1 := et_test h
theorem et_truM {j : Nat} {l : Bool} {a : Addr} {α : Type} {f : α → PyData} {xs : List α} (h : ρ[j]? = some (.mu l a (.lst (xs.map f)))) : Et c ρ (fun σ H Q => tVar j σ H fun x H' => ∃ k, TruV c.K x H' k ∧ Q k H') (!xs.isEmpty) ρ := fun T σ H W Q q => by
  obtain ⟨h0, _, ys, h1, h2⟩ := W.ok j _ h
  refine ⟨.ref a, h0, !xs.isEmpty, .inl ⟨ys, sq_of h1, ?_⟩, q H W⟩
  rw [isEmpty_dp h2, List.isEmpty_map]
/-! #### walks -/
theorem ei_listX {α : Type} {f : α → PyData} {l : List α} (h : Ed c ρ te (.list (l.map f)) ρ1) : Ei c ρ (iList c.K te) (l.map fun x => Itm.hard (f x)) ρ1 := by
  have := ei_list h
  rw [hards, List.map_map] at this
  exact this
theorem ei_tupX {α : Type} {f : α → PyData} {l : List α} (h : Ed c ρ te (.tuple (l.map f)) ρ1) : Ei c ρ (iTup c.K te) (l.map fun x => Itm.hard (f x)) ρ1 := by
  have := ei_tup h
  rw [hards, List.map_map] at this
  exact this
theorem ei_enumX {α : Type} {f : α → PyData} {l : List α} (h : Ed c ρ te (.list (l.map f)) ρ1) : Ei c ρ (iEnum c.K (tCons te tNil)) (l.zipIdx.map fun p => Itm.soft [PyData.int (p.2 : Int), f p.1]) ρ1 := by
  have := ei_enum h
  unfold enumD at this
  rw [List.zipIdx_map, List.map_map] at this
  exact this
theorem zipD_map {α β : Type} (f : α → PyData) (g : β → PyData) (l : List α) (m : List β) : zipD (l.map f) (m.map g) = (l.zip m).map fun p => Itm.soft [f p.1, g p.2] := by
  unfold zipD
  rw [List.zipWith_map, List.zip, List.map_zipWith]
theorem ei_zipLX {α β : Type} {f : α → PyData} {g : β → PyData} {l : List α} {m : List β} (h : Ed c ρ te (.list (l.map f)) ρ1) (h2 : Ed c ρ1 tb (.list (m.map g)) ρ2) : Ei c ρ (iZipA c.K (tCons te (tCons tb tNil))) ((l.zip m).map fun p => Itm.soft [f p.1, g p.2]) ρ2 := by
  have := ei_zip h h2
  rw [zipD_map] at this
  exact this
theorem ei_zipTX {α β : Type} {f : α → PyData} {g : β → PyData} {l : List α} {m : List β} (h : Ed c ρ te (.tuple (l.map f)) ρ1) (h2 : Ed c ρ1 tb (.tuple (m.map g)) ρ2) : Ei c ρ (iZipA c.K (tCons te (tCons tb tNil))) ((l.zip m).map fun p => Itm.soft [f p.1, g p.2]) ρ2 := by
  have := ei_zipT h h2
  rw [zipD_map] at this
  exact this
def rngX (lo hi : Int) : List Int := (List.range (hi - lo).toNat).map fun (i : Nat) => lo + (i : Int)
theorem ei_rngX2 {lo n : Int} (h : Ed c ρ te (.int lo) ρ1) (h2 : Ed c ρ1 tb (.int n) ρ2) (hn : (-4000000000 ≤ lo ∧ lo ≤ 4000000000) ∧ -4000000000 ≤ n ∧ n ≤ 4000000000) : Ei c ρ (iRng2 (tCons te (tCons tb tNil))) ((rngX lo n).map fun (i : Int) => Itm.hard (PyData.int i)) ρ2 := by
  have := ei_rng2 h h2 hn
  unfold hards rngD at this
  unfold rngX
  rw [List.map_map] at this ⊢
  exact this
/-! #### comprehensions by typed items -/
theorem el_lcAX {α β : Type} {wi : TI} {g : TG} {vs : List Nat} {xs : List α} {ea : α → Itm} {enc : β → PyData} {fb : α → β} (h : Ei c ρ wi (xs.map ea) ρ1) (hsz : xs.length ≤ 100000) (hvs : ∀ j ∈ vs, ρ1[j]? = some .no)
    (turn : ∀ (S : List Addr) (B : Hp) (x : α), x ∈ xs → ∃ ρa, Nz.wipeS ρa vs = ρ1 ∧ Eg (c.at S B) g (ea x) ρ1 ρa vs ∧ Ed (c.at S B) ρa te (enc (fb x)) ρa) :
    EdL c ρ (tLc wi g tYes te vs) ((xs.map fb).map enc) ρ1 := el_is (el_lcA xs ea (fun x => enc (fb x)) h hsz hvs turn) (by rw [List.map_map]; rfl)
theorem el_lcPX {α β : Type} {wi : TI} {g : TG} {tt : TT} {vs : List Nat} {xs : List α} {ea : α → Itm} {p : α → Bool} {enc : β → PyData} {fb : α → β} (h : Ei c ρ wi (xs.map ea) ρ1) (hsz : xs.length ≤ 100000) (hvs : ∀ j ∈ vs, ρ1[j]? = some .no)
    (turn : ∀ (S : List Addr) (B : Hp) (x : α), x ∈ xs → ∃ ρa, Nz.wipeS ρa vs = ρ1 ∧ Eg (c.at S B) g (ea x) ρ1 ρa vs ∧ Et (c.at S B) ρa tt (p x) ρa ∧ (p x = true → Ed (c.at S B) ρa te (enc (fb x)) ρa)) :
    EdL c ρ (tLc wi g tt te vs) (((xs.filter p).map fb).map enc) ρ1 := el_is (el_lcP xs ea p (fun x => enc (fb x)) h hsz hvs turn) (by rw [List.map_map]; rfl)
/-! #### statements by typed lists -/
theorem le_rfl {ρ ρ' : List Sl} (e : ρ = ρ') : Le ρ ρ' := e ▸ Le.refl ρ
theorem le_frzX {ρ ρ' : List Sl} {a : Addr} {ds es : List PyData} (e : ds = es) (t : Le ρ ρ') : Le (.mu true a (.lst ds) :: ρ) (.da (.list es) :: ρ') := by subst e; exact le_frz t
variable {D : Ends} {ts tu : TS} {g : TG} {nx bk ct : L2.St → Hp → Prop} {rt : VK}
theorem ixN_nn {n : Nat} {i : Int} (h : 0 ≤ i ∧ i < n) : ixN n i = some i.toNat := by unfold ixN; rw [if_pos h.1, if_pos h.2]
theorem s_setLX {α : Type} {f : α → PyData} {i : Nat} {l : Bool} {a : Addr} {xs : List α} {x : α} {j : Int} (h : Ed c ρ te (f x) ρ1) (hj : Ed c ρ1 tb (.int j) ρ2) (h0 : ∃ l o, ρ1[i]? = some (.mu l a o)) (ha : ρ2[i]? = some (.mu l a (.lst (xs.map f)))) (hn : 0 ≤ j ∧ j < xs.length)
    (k : Sk c T (ρ2.set i (.mu l a (.lst ((xs.set j.toNat x).map f)))) nx) : Ss c T ρ (tAsg te (gSub (tVar i) tb rSetL)) ⟨nx, rt, bk, ct⟩ :=
  s_setL h hj h0 ha (n := j.toNat) (ixN_nn (by rw [List.length_map]; exact hn)) (by rw [← List.map_set]; exact k)
/-- a op= with what C asks -/
theorem s_augC {C : Int → Int → Prop} {i : Nat} {f : Int → Int → Int} {a b : Int} (hx : ρ[i]? = some (.da (.int a))) (h : Ed c ρ te (.int b) ρ) (hc : C a b) (k : Sk c T (ρ.set i (.da (.int (f a b)))) nx) : Ss c T ρ (tAug i te (rI C fun i j => .int (f i j))) ⟨nx, rt, bk, ct⟩ := fun σ H W => by
  obtain ⟨v, e, dp⟩ := W.ok i _ hx
  refine ⟨v, e, h T σ H W _ fun w H1 W1 => ⟨a, b, dp_int dp, dp_int W1.dp, hc, ?_⟩⟩
  exact k _ _ (W1.pop.setD i (.int _))
end
end Nz

/-! methods of plain tuples -/
namespace Nz
open PySem PySem.Spec PyProof.Rows L2 RZ
section
variable {X : Cx} {o e : Expr} {es : List Expr} {to : TE} {t : TA} {name : Str} {apos cpos : Pos} {id : String} {r : V → List V → Hp → VK → Prop}
def tBMT (K : PySem.W.Frag) (r : V → List V → Hp → VK → Prop) (to : TE) (t : TA) : TE := fun σ H Q => to σ H fun x H1 => (∃ p xs, x = .ref p ∧ Pt K H1 p xs) ∧ t σ H1 fun xs H2 => r x xs H2 Q
theorem pt_is {pins : List (Addr × Obj)} {σ : L2.St} {H : Hp} {s : Shared} {x : V} {v : Value} (I : Inv X pins σ H s) (rv : RelV x v) (h : ∃ p xs, x = .ref p ∧ Pt X.K H p xs) :
    s.TypeIs v "tuple" ∧ ∀ a, v = .ref a → ∃ ob, s.heap.get? a = some ob ∧ ob.dict = none := by
  obtain ⟨p, xs, rfl, h⟩ := h
  cases rv
  rcases h with ⟨o, h, z⟩ | ⟨o, its, n, h1, h2, h3, h4, h5, h6⟩
  · have e := I.hok p _ h
    obtain ⟨e1, e2⟩ := e
    obtain ⟨hz, its, rr, ip⟩ := e2
    obtain ⟨o', e', hc, hd⟩ := ip
    have : o = o' := by rw [e1] at e'; exact Option.some.inj e'
    subst this
    refine ⟨⟨o, e1, hc⟩, fun a q => ?_⟩
    cases q
    exact ⟨o, e1, z⟩
  · refine ⟨⟨o, I.kIn p o h1, h2⟩, fun a q => ?_⟩
    cases q
    exact ⟨o, I.kIn p o h1, h3⟩
theorem pe_bmT (slot : Slot "tuple" name id) (hty : typeOf (.builtin id) = pure (.type "method_descriptor")) (hm : MtR X id r) (ho : PE X o to) (ha : PA X (e :: es) t)
    (hbase : attributeBase o name X.env (eval o X.env) = eval o X.env := by rfl)
    (hfew : ((backTo cpos (starEach (e :: es) X.env)).all (fun x => !x.1) && (backToKw cpos (keywordEach [] X.env)).all (fun x => x.1.isSome)
      && decide ((e :: es).length + ([] : List Keyword).length + (if ([] : List Keyword).isEmpty then 0 else 1) < 30)) = true := by rfl)
    (hline : (apos.endLine == cpos.line) = true := by rfl) (hs : starEach (e :: es) X.env = (false, eval e X.env) :: starEach es X.env := by rfl) (hplain : (backTo cpos (starEach es X.env)).any (·.1) = false := by rfl) :
    PE X (.Call (.Attribute o name apos) (e :: es) [] cpos) (tBMT X.K r to t) := by
  refine ⟨fun pins s σ H Q I h => ?_⟩
  refine wpAny_Call_method_late hbase hfew hline rfl (thn (ho.run pins s σ H _ I h) fun v s1 ⟨x, H1, I1, r1, ty, q1⟩ => ?_)
  obtain ⟨h1, h2⟩ := pt_is I1 r1 ty
  refine ⟨"tuple", id, PySem.F.plainAttrs_tuple, slot, hty, h1, h2, ?_⟩
  have hA := ha.run cpos pins s1 σ H1 _ I1 q1
  rw [hs] at hA ⊢
  refine Calls.callWith_builtin (by show (false || (backTo cpos (starEach es X.env)).any (·.1)) = false; rw [hplain] <;> rfl) (Calls.evalArgs_plain ?_)
  exact thn hA fun us s2 ⟨vs, H2, I2, r2, q2⟩ => hm pins s2 σ H2 x vs v us Q I2 r1 r2 q2
/-- the same, where X's own K is told apart -/
theorem pe_bmTK {K : PySem.W.Frag} (slot : Slot "tuple" name id) (hty : typeOf (.builtin id) = pure (.type "method_descriptor")) (hm : MtR X id r) (ho : PE X o to) (ha : PA X (e :: es) t) (hK : X.K = K := by rfl)
    (hbase : attributeBase o name X.env (eval o X.env) = eval o X.env := by rfl)
    (hfew : ((backTo cpos (starEach (e :: es) X.env)).all (fun x => !x.1) && (backToKw cpos (keywordEach [] X.env)).all (fun x => x.1.isSome)
      && decide ((e :: es).length + ([] : List Keyword).length + (if ([] : List Keyword).isEmpty then 0 else 1) < 30)) = true := by rfl)
    (hline : (apos.endLine == cpos.line) = true := by rfl) (hs : starEach (e :: es) X.env = (false, eval e X.env) :: starEach es X.env := by rfl) (hplain : (backTo cpos (starEach es X.env)).any (·.1) = false := by rfl) :
    PE X (.Call (.Attribute o name apos) (e :: es) [] cpos) (tBMT K r to t) := hK ▸ pe_bmT slot hty hm ho ha hbase hfew hline hs hplain
theorem pe_bmK {K : PySem.W.Frag} {T : String} (pa : PlainAttrs T) (slot : Slot T name id) (hty : typeOf (.builtin id) = pure (.type "method_descriptor")) (hm : MtR X id r) (ho : PE X o to) (ha : PA X (e :: es) t) (hK : X.K = K := by rfl)
    (hbase : attributeBase o name X.env (eval o X.env) = eval o X.env := by rfl)
    (hfew : ((backTo cpos (starEach (e :: es) X.env)).all (fun x => !x.1) && (backToKw cpos (keywordEach [] X.env)).all (fun x => x.1.isSome)
      && decide ((e :: es).length + ([] : List Keyword).length + (if ([] : List Keyword).isEmpty then 0 else 1) < 30)) = true := by rfl)
    (hline : (apos.endLine == cpos.line) = true := by rfl) (hs : starEach (e :: es) X.env = (false, eval e X.env) :: starEach es X.env := by rfl) (hplain : (backTo cpos (starEach es X.env)).any (·.1) = false := by rfl) :
    PE X (.Call (.Attribute o name apos) (e :: es) [] cpos) (tBM K T r to t) := hK ▸ pe_bm pa slot hty hm ho ha hbase hfew hline hs hplain
def rCntT (K : PySem.W.Frag) : V → List V → Hp → VK → Prop := fun x xs H Q => ∃ (p : Addr) (ns : List Int) (k : Int), x = .ref p ∧ xs = [.int k] ∧ SqT K H p (ns.map V.int) ∧ Q (.int (ns.count k : Nat)) H
theorem mt_tcount : MtR X "tuple.count" (rCntT X.K) := by
  intro pins s σ H x xs v us Q I rx rxs h
  obtain ⟨p, ns, k, rfl, rfl, hs, q⟩ := h
  cases rx
  obtain ⟨u, rfl, ru⟩ := rxs.one
  obtain ⟨t, rfl⟩ := ru
  obtain ⟨its, rv, ⟨⟨cls, dd, data, sl⟩, ho, hc, n, hd⟩, hlen⟩ := I.tuple hs
  simp only at hc hd
  subst hc hd
  have hi := ints_of_vals rv
  refine call_meets PySem.F.slot_tuple_count ⟨_, ho, rfl⟩ PySem.F.entry_tuple_count (PySem.F.args_tuple_count_2 _ _)
    (SeqAt.tuple_countAt p its.toArray n dd sl (.int k t) (eqk k)) ⟨ho, fun y hy => (eqk_gives hi y (by simpa using hy)).at _ _, ?_⟩
  have ec : its.toArray.toList.countP (eqk k) = ns.count k := eqk_count hi
  refine ⟨.int (ns.count k : Nat), H, I.tok _, ⟨s.toks, ?_⟩, q⟩
  show Value.int ((its.toArray.toList.countP (eqk k) : Nat) : Int) s.toks = Value.int ((ns.count k : Nat) : Int) s.toks
  rw [ec]
end
section
variable {c : Cz} {ρ ρ1 ρ2 : List Sl} {ta tb te : TE} {d : PyData}
theorem ed_tcount {l : List Int} {k : Int} (ha : Ed c ρ ta (.tuple (l.map .int)) ρ1) (hb : Ed c ρ1 tb (.int k) ρ2) : Ed c ρ (tBMT c.K (rCntT c.K) ta (tCons tb tNil)) (.int ((l.count k : Nat) : Int)) ρ2 := fun T σ H W Q q => ha T σ H W _ fun v H1 W1 => by
  obtain ⟨a, xs, rfl, hs, h2⟩ := dp_tup W1.dp
  refine ⟨⟨a, xs, rfl, ex_p (hide_ex _ _) hs⟩, hb _ σ H1 W1 _ fun w H2 W2 => ?_⟩
  obtain ⟨a', xs', e, hs', h2'⟩ := dp_tup W2.pop.dp
  cases e
  have := dpaInts h2'
  subst this
  exact ⟨a, l, k, rfl, by rw [dp_int W2.dp], (ex_p (hide_ex _ _) hs').sq, q _ H2 (W2.pop.pop.push (.int _))⟩
def rCntL (K : PySem.W.Frag) := rCntI K
theorem ed_lcount {l : List Int} {k : Int} (ha : Ed c ρ ta (.list (l.map .int)) ρ1) (hb : Ed c ρ1 tb (.int k) ρ2) : Ed c ρ (tBM c.K "list" (rCntI c.K) ta (tCons tb tNil)) (.int ((l.count k : Nat) : Int)) ρ2 := fun T σ H W Q q => ha T σ H W _ fun v H1 W1 => by
  obtain ⟨a, xs, rfl, hs, h2⟩ := dp_lst W1.dp
  refine ⟨.inl ⟨rfl, xs, ex_l (hide_ex _ _) hs⟩, hb _ σ H1 W1 _ fun w H2 W2 => ?_⟩
  obtain ⟨a', xs', e, hs', h2'⟩ := dp_lst W2.pop.dp
  cases e
  have := dpaInts h2'
  subst this
  exact ⟨a, l, k, rfl, by rw [dp_int W2.dp], ex_l (hide_ex _ _) hs', q _ H2 (W2.pop.pop.push (.int _))⟩
end
end Nz

/-! data that can be shown and compared -/
namespace Nz
open PySem PySem.Spec PyProof.Rows L2 RZ
/-- no deeper than k, shown in len letters, parts below 2 ^ 1900 -/
structure Gd (k len : Nat) (d : PyData) : Prop where
  lay : d.canLay0 = true
  sh : d.showable = true
  dep : d.depth ≤ k
  len : d.shown.length ≤ len
theorem Gd.mono {k l k' l' : Nat} {d : PyData} (h : Gd k l d) (a : k ≤ k') (b : l ≤ l') : Gd k' l' d := ⟨h.lay, h.sh, Nat.le_trans h.dep a, Nat.le_trans h.len b⟩
theorem gd_show {k l : Nat} {d : PyData} (h : Gd k l d) (hk : k ≤ 60 := by decide) (hl : l ≤ 16000000 := by decide) : showOk d := ⟨h.sh, PyData.hasDict_of_canLay d h.lay, Nat.le_trans h.dep hk, Nat.le_trans h.len (Nat.le_trans hl (by decide))⟩
theorem gd_shaped {k l : Nat} {d : PyData} (h : Gd k l d) (hk : k ≤ 60 := by decide) : SeqAt.shaped d = true := by
  unfold SeqAt.shaped
  rw [h.lay]
  exact decide_eq_true (Nat.le_trans h.dep (Nat.le_trans hk (by decide)))
theorem pow_1900 : (2 : Nat) ^ 1900 < 10 ^ 600 := by decide +kernel
theorem gd_int {i : Int} (h : i.natAbs < 2 ^ 1900) : Gd 0 601 (.int i) := by
  refine ⟨rfl, ?_, Nat.le_refl _, ?_⟩
  · show decide (i.natAbs.log2 < 1920) = true
    refine decide_eq_true ?_
    by_cases z : i.natAbs = 0
    · rw [z]; decide
    · have := (Nat.log2_lt z).mpr h
      omega
  · have e := PySem.int_text_length_le10 (k := 600) (by decide) (Nat.lt_trans h pow_1900)
    show (Str.ofString (toString i)).length ≤ 601
    rw [PySem.ofString_length]; exact e
theorem gd_bool (b : Bool) : Gd 0 601 (.bool b) := ⟨rfl, rfl, Nat.le_refl _, by cases b <;> decide +kernel⟩
theorem gd_none : Gd 0 601 .none := ⟨rfl, rfl, Nat.le_refl _, by decide +kernel⟩
theorem gd_all {k l : Nat} : ∀ {ds : List PyData}, (∀ d ∈ ds, Gd k l d) → PyData.canLayAll0 ds = true ∧ PyData.showableAll ds = true ∧ PyData.depthAll ds ≤ k ∧ ((PyData.shownAll ds).map (·.length)).sum ≤ l * ds.length
  | [], _ => ⟨rfl, rfl, Nat.zero_le _, by simp [PyData.shownAll]⟩
  | d :: ds, h => by
    obtain ⟨a, b, c, e⟩ := gd_all fun x hx => h x (List.mem_cons_of_mem _ hx)
    obtain ⟨a', b', c', e'⟩ := h d (List.mem_cons_self ..)
    refine ⟨by rw [PyData.canLayAll0, a, a']; rfl, by rw [PyData.showableAll, b, b']; rfl, by rw [PyData.depthAll]; omega, ?_⟩
    rw [PyData.shownAll, List.map_cons, List.sum_cons, List.length_cons, Nat.mul_add]
    omega
theorem gd_list {k l n : Nat} {ds : List PyData} (h : ∀ d ∈ ds, Gd k l d) (hn : ds.length ≤ n) : Gd (k + 1) ((l + 2) * n + 3) (.list ds) := by
  obtain ⟨a, b, c, e⟩ := gd_all h
  refine ⟨by rw [PyData.canLay0]; exact a, by rw [PyData.showable]; exact b, by rw [PyData.depth]; omega, ?_⟩
  have t := listText_len_le (PyData.shownAll ds)
  rw [PyData.shownAll_length] at t
  have e2 : (PyData.list ds).shown = listText (PyData.shownAll ds) := by rw [PyData.shown]
  rw [e2]
  refine Nat.le_trans t ?_
  have : (l + 2) * ds.length ≤ (l + 2) * n := Nat.mul_le_mul_left _ hn
  rw [Nat.add_mul] at this
  omega
theorem gd_tuple {k l n : Nat} {ds : List PyData} (h : ∀ d ∈ ds, Gd k l d) (hn : ds.length ≤ n) : Gd (k + 1) ((l + 2) * n + 3) (.tuple ds) := by
  obtain ⟨a, b, c, e⟩ := gd_all h
  refine ⟨by rw [PyData.canLay0]; exact a, by rw [PyData.showable]; exact b, by rw [PyData.depth]; omega, ?_⟩
  have t := tupleText_len_le (PyData.shownAll ds)
  rw [PyData.shownAll_length] at t
  have e2 : (PyData.tuple ds).shown = tupleText (PyData.shownAll ds) := by rw [PyData.shown]
  rw [e2]
  refine Nat.le_trans t ?_
  have : (l + 2) * ds.length ≤ (l + 2) * n := Nat.mul_le_mul_left _ hn
  rw [Nat.add_mul] at this
  omega
theorem gd_Q {r : Rat} (h : r.num.natAbs < 2 ^ 1900) (h2 : r.den < 2 ^ 1900) : Gd 1 1209 (eQ r) :=
  gd_tuple (k := 0) (l := 601) (n := 2) (fun d hd => by
    simp only [List.mem_cons, List.mem_singleton, List.not_mem_nil, or_false] at hd
    rcases hd with rfl | rfl
    · exact gd_int h
    · exact gd_int (show ((r.den : Int)).natAbs < 2 ^ 1900 from h2)) (Nat.le_refl _)
theorem gd_L {α : Type} {f : α → PyData} {l : List α} {k len n : Nat} (h : ∀ x ∈ l, Gd k len (f x)) (hn : l.length ≤ n) : Gd (k + 1) ((len + 2) * n + 3) (eL f l) :=
  gd_list (fun d hd => by obtain ⟨x, hx, rfl⟩ := List.mem_map.mp hd; exact h x hx) (by rw [List.length_map]; exact hn)
theorem gd_T {α : Type} {f : α → PyData} {l : List α} {k len n : Nat} (h : ∀ x ∈ l, Gd k len (f x)) (hn : l.length ≤ n) : Gd (k + 1) ((len + 2) * n + 3) (eT f l) :=
  gd_tuple (fun d hd => by obtain ⟨x, hx, rfl⟩ := List.mem_map.mp hd; exact h x hx) (by rw [List.length_map]; exact hn)
theorem same_ret {k l : Nat} {a b : PyData} (e : a = b) (h : Gd k l a) : PyData.bool (PyData.eqv a b && decide (PyData.shown a = PyData.shown b)) = PyData.bool true := by
  subst e
  rw [SeqAt.eqv_refl a h.lay]
  simp
section
variable {c : Cz} {ρ ρ1 ρ2 : List Sl} {ta tb te : TE} {d : PyData}
theorem ed_eqS {x y : Str} (ha : Ed c ρ ta (.str x) ρ1) (hb : Ed c ρ1 tb (.str y) ρ2) : Ed c ρ (tOp rEq ta tb) (.bool (decide (x = y))) ρ2 :=
  ed_op ha hb fun T σ H v w W hx hy Q q => by
    rw [dp_str hx, dp_str hy]
    refine ⟨rfl, ?_⟩
    have e : decide (V.str x = V.str y) = decide (x = y) := by simp
    rw [e]
    exact q _ H (W.push (.bl _))
theorem ed_neS {x y : Str} (ha : Ed c ρ ta (.str x) ρ1) (hb : Ed c ρ1 tb (.str y) ρ2) : Ed c ρ (tOp rNe ta tb) (.bool (!decide (x = y))) ρ2 :=
  ed_op ha hb fun T σ H v w W hx hy Q q => by
    rw [dp_str hx, dp_str hy]
    refine ⟨rfl, ?_⟩
    have e : decide (V.str x = V.str y) = decide (x = y) := by simp
    rw [e]
    exact q _ H (W.push (.bl _))
end
end Nz

/-! what may come out in many ways (draws from the script) -/
namespace Nz
open PySem PySem.Spec PyProof.Rows L2 RZ

def Ew {α : Type} (c : Cz) (ρ : List Sl) (te : TE) (f : α → PyData) (P : α → Prop) (ρ' : List Sl) : Prop := ∀ (T : Tm) (σ : L2.St) (H : Hp), Wd c T H σ ρ → ∀ Q : VK, (∀ x v H', P x → Wd c ((v, f x) :: T) H' σ ρ' → Q v H') → te σ H Q
def EwL {α : Type} (c : Cz) (ρ : List Sl) (te : TE) (g : α → List PyData) (P : α → Prop) (ρ' : List Sl) : Prop := ∀ (T : Tm) (σ : L2.St) (H : Hp), Wd c T H σ ρ → ∀ Q : VK,
  (∀ x p H', P x → c.B p = none → p ∉ hid c ρ' → MoOk c.K (p :: hid c ρ') H' p (.lst (g x)) → Wd (c.hidden p) T H' σ ρ' → Q (.ref p) H') → te σ H Q
def Ewt (c : Cz) (ρ : List Sl) (tt : TT) (P : Bool → Prop) (ρ' : List Sl) : Prop := ∀ (T : Tm) (σ : L2.St) (H : Hp), Wd c T H σ ρ → ∀ Q : Bool → Hp → Prop, (∀ b H', P b → Wd c T H' σ ρ' → Q b H') → tt σ H Q
def Ewa {α : Type} (c : Cz) (ρ : List Sl) (ta : TA) (as : α → List Ar) (P : α → Prop) (ρ' : List Sl) : Prop := ∀ (T : Tm) (σ : L2.St) (H : Hp), Wd c T H σ ρ → ∀ Q : List V → Hp → Prop,
  (∀ x vs H', P x → AA c.K (hide (hid c ρ') H') vs (as x) → Wd c T H' σ ρ' → Q vs H') → ta σ H Q
def Ewo (c : Cz) (ρ : List Sl) (to : TO) (P : Option Int → Prop) (ρ' : List Sl) : Prop := ∀ (T : Tm) (σ : L2.St) (H : Hp), Wd c T H σ ρ → ∀ Q : Option Int → Hp → Prop, (∀ o H', P o → Wd c T H' σ ρ' → Q o H') → to σ H Q

/-! #### slots put behind -/
def slA : Ar → Sl
  | .raw v => .vl v
  | .dat d => .da d
theorem muts_app {ρ : List Sl} {as : List Ar} : muts (ρ ++ as.map slA) = muts ρ := by
  unfold muts
  rw [List.filterMap_append]
  have : List.filterMap mutA (as.map slA) = [] := by
    rw [List.filterMap_eq_nil_iff]
    intro s hs
    obtain ⟨a, _, rfl⟩ := List.mem_map.mp hs
    cases a <;> rfl
  rw [this, List.append_nil]
theorem hid_app {c : Cz} {ρ : List Sl} {as : List Ar} : hid c (ρ ++ as.map slA) = hid c ρ := by
  show c.S0 ++ muts _ = c.S0 ++ muts _
  rw [muts_app]
theorem aa_get {K : PySem.W.Frag} {H : Hp} : ∀ {as : List Ar} {vs : List V}, AA K H vs as → ∀ (i : Nat) (s : Sl), (as.map slA)[i]? = some s → ∃ v, vs[i]? = some v ∧ (s = .vl v ∨ ∃ d, s = .da d ∧ Dz K H v d)
  | [], _, h, i, s, e => by simp at e
  | a :: as, _, h, 0, s, e => by
    cases h with
    | raw h => exact ⟨_, rfl, .inl (Option.some.inj e).symm⟩
    | dat h1 h => exact ⟨_, rfl, .inr ⟨_, (Option.some.inj e).symm, h1⟩⟩
  | a :: as, _, h, i + 1, s, e => by
    cases h with
    | raw h => exact aa_get h i s e
    | dat h1 h => exact aa_get h i s e
theorem aa_len {K : PySem.W.Frag} {H : Hp} : ∀ {as : List Ar} {vs : List V}, AA K H vs as → vs.length = as.length
  | [], _, h => by cases h; rfl
  | a :: as, _, h => by
    cases h with
    | raw h => exact congrArg (· + 1) (aa_len h)
    | dat h1 h => exact congrArg (· + 1) (aa_len h)
theorem Wd.ext {c : Cz} {T : Tm} {H : Hp} {σ : L2.St} {ρ : List Sl} {vs : List V} {as : List Ar} (W : Wd c T H σ ρ) (a : AA c.K (hide (hid c ρ) H) vs as) : Wd c T H (σ ++ vs.map some) (ρ ++ as.map slA) := by
  have nm : ∀ {i : Nat} {l : Bool} {b : Addr} {o : MO}, (ρ ++ as.map slA)[i]? = some (.mu l b o) → ρ[i]? = some (.mu l b o) := fun {i l b o} e => by
    by_cases hi : i < ρ.length
    · rwa [List.getElem?_append_left hi] at e
    · rw [List.getElem?_append_right (by omega)] at e
      obtain ⟨v, _, q | ⟨d, q, _⟩⟩ := aa_get a _ _ e <;> cases q
  refine ⟨?_, W.keep, W.sub, W.dom, ?_, fun i j l m b o u h1 h2 => W.inj i j l m b o u (nm h1) (nm h2), fun i b o h => W.ap i b o (nm h), fun i s e => ?_⟩
  · simp [W.len, aa_len a]
  · rw [hid_app]; exact W.tmp
  · rw [hid_app]
    have hl := W.len
    by_cases hi : i < ρ.length
    · rw [List.getElem?_append_left hi] at e
      rw [List.getElem?_append_left (by omega)]
      exact W.ok i s e
    · rw [List.getElem?_append_right (by omega)] at e
      rw [List.getElem?_append_right (by omega), hl, List.getElem?_map]
      obtain ⟨v, hv, q | ⟨d, q, dv⟩⟩ := aa_get a _ _ e
      · subst q; rw [hv]; exact rfl
      · subst q; rw [hv]; exact ⟨v, rfl, dv⟩
theorem Wd.cut {c : Cz} {T : Tm} {H : Hp} {σ τ : L2.St} {ρ : List Sl} {as : List Ar} (W : Wd c T H (σ ++ τ) (ρ ++ as.map slA)) (hl : σ.length = ρ.length) : Wd c T H σ ρ := by
  have up : ∀ {i : Nat} {s : Sl}, ρ[i]? = some s → (ρ ++ as.map slA)[i]? = some s := fun {i s} e => by
    rw [List.getElem?_append_left (List.getElem?_eq_some_iff.mp e).1]; exact e
  refine ⟨hl, W.keep, W.sub, W.dom, ?_, fun i j l m b o u h1 h2 => W.inj i j l m b o u (up h1) (up h2), fun i b o h => W.ap i b o (up h), fun i s e => ?_⟩
  · have := W.tmp; rw [hid_app] at this; exact this
  · have ok := W.ok i s (up e)
    have hi := (List.getElem?_eq_some_iff.mp e).1
    rw [hid_app, List.getElem?_append_left (by omega)] at ok
    exact ok

section
variable {c : Cz} {ρ ρ1 ρ2 ρ3 : List Sl} {ta tb te tx : TE} {t u : TT} {d d1 d2 d3 : PyData} {T : Tm} {H H' : Hp} {σ : L2.St}
variable {α β γ : Type} {f : α → PyData} {g : β → PyData} {e : γ → PyData} {P : α → Prop} {P2 : β → Prop} {P3 : γ → Prop}
theorem ew_det {x : α} (h : Ed c ρ te (f x) ρ1) : Ew c ρ te f (fun y => y = x) ρ1 := fun T σ H W Q q => h T σ H W Q fun v H1 W1 => q x v H1 rfl W1
theorem ew_imp {R : α → Prop} (h : Ew c ρ te f P ρ1) (i : ∀ x, P x → R x) : Ew c ρ te f R ρ1 := fun T σ H W Q q => h T σ H W Q fun x v H1 px W1 => q x v H1 (i x px) W1
theorem ew_as {R : β → Prop} (h : Ew c ρ te f P ρ1) (i : ∀ x, P x → ∃ y, R y ∧ f x = g y) : Ew c ρ te g R ρ1 := fun T σ H W Q q => h T σ H W Q fun x v H1 px W1 => by
  obtain ⟨y, hy, e⟩ := i x px
  rw [e] at W1
  exact q y v H1 hy W1
theorem ewt_det {b : Bool} (h : Et c ρ t b ρ1) : Ewt c ρ t (fun y => y = b) ρ1 := fun T σ H W Q q => h T σ H W Q fun H1 W1 => q b H1 rfl W1
theorem ewl_det {x : α} {f : α → List PyData} (h : EdL c ρ te (f x) ρ1) : EwL c ρ te f (fun y => y = x) ρ1 := fun T σ H W Q q => h T σ H W Q fun p H1 h1 h2 h3 W1 => q x p H1 rfl h1 h2 h3 W1
theorem ew_L {f : α → List PyData} (h : EwL c ρ te f P ρ1) : Ew c ρ te (fun x => .list (f x)) P ρ1 := fun T σ H W Q q => h T σ H W Q fun x p H' px hB hn hm W' => by
  have W2 := W'.unhide W.sub
  obtain ⟨xs, h1, h2⟩ := hm
  have e2 : Ex (hide (p :: hid c ρ1) H') (hide (hid c ρ1) H') := hide_mono fun a o n h => ⟨fun m => n (List.mem_cons_of_mem _ m), h⟩
  exact q x _ H' px (W2.push (.lst (sq_of (hide_of hn h1)) (dpam e2 h2)))
/-- an operator: as for data that is known -/
theorem ew_op {r : R2} {F : α → β → γ} (ha : Ew c ρ ta f P ρ1) (hb : Ew c ρ1 tb g P2 ρ2)
    (h : ∀ x y, P x → P2 y → ∀ (ρ : List Sl) (ta tb : TE), Ed c ρ ta (f x) ρ → Ed c ρ tb (g y) ρ → Ed c ρ (tOp r ta tb) (e (F x y)) ρ) : Ew c ρ (tOp r ta tb) e (fun z => ∃ x y, P x ∧ P2 y ∧ z = F x y) ρ2 :=
  fun T σ H W Q q => ha T σ H W _ fun x v H1 px W1 => hb _ σ H1 W1 _ fun y w H2 py W2 => by
    have hl := W2.len
    have W3 := W2.ext (as := [.dat (f x), .dat (g y)]) (.dat W2.pop.dp (.dat W2.dp .nil))
    obtain ⟨v', e1, w', e2, k⟩ := h x y px py (ρ2 ++ [.dat (f x), .dat (g y)].map slA) (tVar ρ2.length) (tVar (ρ2.length + 1)) (ed_var (by simp [slA])) (ed_var (by rw [List.getElem?_append_right (by omega)]; simp [slA])) _ _ H2 W3 Q
      (fun z H' W4 => q _ z H' ⟨x, y, px, py, rfl⟩ ((W4.cut hl).tmps fun p hp => by
        rcases List.mem_cons.mp hp with e | m
        · rw [e]; exact List.mem_cons_self ..
        · exact List.mem_cons_of_mem _ (List.mem_cons_of_mem _ (List.mem_cons_of_mem _ m))))
    rw [List.getElem?_append_right (by omega)] at e1 e2
    rw [show ρ2.length - σ.length = 0 by omega] at e1
    rw [show ρ2.length + 1 - σ.length = 1 by omega] at e2
    cases e1; cases e2
    exact k
theorem ewl_op {r : R2} {F : α → β → γ} {e : γ → List PyData} (ha : Ew c ρ ta f P ρ1) (hb : Ew c ρ1 tb g P2 ρ2)
    (h : ∀ x y, P x → P2 y → ∀ (ρ : List Sl) (ta tb : TE), Ed c ρ ta (f x) ρ → Ed c ρ tb (g y) ρ → EdL c ρ (tOp r ta tb) (e (F x y)) ρ) : EwL c ρ (tOp r ta tb) e (fun z => ∃ x y, P x ∧ P2 y ∧ z = F x y) ρ2 :=
  fun T σ H W Q q => ha T σ H W _ fun x v H1 px W1 => hb _ σ H1 W1 _ fun y w H2 py W2 => by
    have hl := W2.len
    have W3 := W2.ext (as := [.dat (f x), .dat (g y)]) (.dat W2.pop.dp (.dat W2.dp .nil))
    obtain ⟨v', e1, w', e2, k⟩ := h x y px py (ρ2 ++ [.dat (f x), .dat (g y)].map slA) (tVar ρ2.length) (tVar (ρ2.length + 1)) (ed_var (by simp [slA])) (ed_var (by rw [List.getElem?_append_right (by omega)]; simp [slA])) _ _ H2 W3 Q
      (fun p H' h1 h2 h3 W4 => by
        rw [hid_app] at h2 h3
        exact q _ p H' ⟨x, y, px, py, rfl⟩ h1 h2 h3 ((W4.cut hl).pop.pop))
    rw [List.getElem?_append_right (by omega)] at e1 e2
    rw [show ρ2.length - σ.length = 0 by omega] at e1
    rw [show ρ2.length + 1 - σ.length = 1 by omega] at e2
    cases e1; cases e2
    exact k
/-- anything of one part: G te = te, then k -/
theorem ew_1 {G : TE → TE} {k : V → L2.St → Hp → VK → Prop} {F : α → γ} (hG : ∀ te σ H Q, G te σ H Q = te σ H fun v H' => k v [] H' Q) (ha : Ew c ρ ta f P ρ1)
    (h : ∀ x, P x → ∀ (ρ : List Sl) (ta : TE), Ed c ρ ta (f x) ρ → Ed c ρ (G ta) (e (F x)) ρ) : Ew c ρ (G ta) e (fun z => ∃ x, P x ∧ z = F x) ρ1 :=
  fun T σ H W Q q => by
    rw [hG]
    refine ha T σ H W _ fun x v H1 px W1 => ?_
    have hl := W1.len
    have W3 := W1.ext (as := [.dat (f x)]) (.dat W1.dp .nil)
    have k := h x px (ρ1 ++ [.dat (f x)].map slA) (tVar ρ1.length) (ed_var (by simp [slA])) _ _ H1 W3 Q
      (fun z H' W4 => q _ z H' ⟨x, px, rfl⟩ ((W4.cut hl).tmps fun p hp => by
        rcases List.mem_cons.mp hp with e | m
        · rw [e]; exact List.mem_cons_self ..
        · exact List.mem_cons_of_mem _ (List.mem_cons_of_mem _ m)))
    rw [hG] at k
    obtain ⟨v', e1, k⟩ := k
    rw [List.getElem?_append_right (by omega)] at e1
    rw [show ρ1.length - σ.length = 0 by omega] at e1
    cases e1
    exact k
theorem ewl_1 {G : TE → TE} {k : V → L2.St → Hp → VK → Prop} {F : α → γ} {e : γ → List PyData} (hG : ∀ te σ H Q, G te σ H Q = te σ H fun v H' => k v [] H' Q) (ha : Ew c ρ ta f P ρ1)
    (h : ∀ x, P x → ∀ (ρ : List Sl) (ta : TE), Ed c ρ ta (f x) ρ → EdL c ρ (G ta) (e (F x)) ρ) : EwL c ρ (G ta) e (fun z => ∃ x, P x ∧ z = F x) ρ1 :=
  fun T σ H W Q q => by
    rw [hG]
    refine ha T σ H W _ fun x v H1 px W1 => ?_
    have hl := W1.len
    have W3 := W1.ext (as := [.dat (f x)]) (.dat W1.dp .nil)
    have k := h x px (ρ1 ++ [.dat (f x)].map slA) (tVar ρ1.length) (ed_var (by simp [slA])) _ _ H1 W3 Q
      (fun p H' h1 h2 h3 W4 => by
        rw [hid_app] at h2 h3
        exact q _ p H' ⟨x, px, rfl⟩ h1 h2 h3 ((W4.cut hl).pop))
    rw [hG] at k
    obtain ⟨v', e1, k⟩ := k
    rw [List.getElem?_append_right (by omega)] at e1
    rw [show ρ1.length - σ.length = 0 by omega] at e1
    cases e1
    exact k
theorem ew_cb1 {r : List V → Hp → VK → Prop} {F : α → γ} (ha : Ew c ρ ta f P ρ1) (h : ∀ x, P x → ∀ (ρ : List Sl) (ta : TE), Ed c ρ ta (f x) ρ → Ed c ρ (tCB r (tCons ta tNil)) (e (F x)) ρ) :
    Ew c ρ (tCB r (tCons ta tNil)) e (fun z => ∃ x, P x ∧ z = F x) ρ1 :=
  ew_1 (G := fun ta => tCB r (tCons ta tNil)) (k := fun v _ H Q => r [v] H Q) (fun _ _ _ _ => rfl) ha h
theorem ewl_cb1 {r : List V → Hp → VK → Prop} {F : α → γ} {e : γ → List PyData} (ha : Ew c ρ ta f P ρ1) (h : ∀ x, P x → ∀ (ρ : List Sl) (ta : TE), Ed c ρ ta (f x) ρ → EdL c ρ (tCB r (tCons ta tNil)) (e (F x)) ρ) :
    EwL c ρ (tCB r (tCons ta tNil)) e (fun z => ∃ x, P x ∧ z = F x) ρ1 :=
  ewl_1 (G := fun ta => tCB r (tCons ta tNil)) (k := fun v _ H Q => r [v] H Q) (fun _ _ _ _ => rfl) ha h
/-! #### arguments, displays, calls -/
theorem ewa_det {x : α} {as : α → List Ar} {ts : TA} (h : Ea c ρ ts (as x) ρ1) : Ewa c ρ ts as (fun y => y = x) ρ1 := fun T σ H W Q q => h T σ H W Q fun v H1 a W1 => q x v H1 rfl a W1
theorem ewa_nil : Ewa c ρ tNil (fun (_ : Unit) => []) (fun _ => True) ρ := fun T σ H W Q q => q () [] H trivial .nil W
theorem ewa_cons {ts : TA} {as : β → List Ar} (h : Ew c ρ te f P ρ1) (hr : Ewa c ρ1 ts as P2 ρ2) : Ewa c ρ (tCons te ts) (fun p : α × β => .dat (f p.1) :: as p.2) (fun p => P p.1 ∧ P2 p.2) ρ2 := fun T σ H W Q q =>
  h T σ H W _ fun x v H1 px W1 => hr _ σ H1 W1 _ fun y vs H2 py a W2 => q (x, y) _ H2 ⟨px, py⟩ (.dat W2.dp a) W2.pop
theorem ewa_raw {ts : TA} {as : α → List Ar} {i : Nat} {a : Addr} {l : Bool} {o : MO} (h : ρ[i]? = some (.mu l a o)) (hr : Ewa c ρ ts as P ρ2) : Ewa c ρ (tCons (tVar i) ts) (fun x => .raw (.ref a) :: as x) P ρ2 := fun T σ H W Q q =>
  ⟨.ref a, (W.ok i _ h).1, hr T σ H W _ fun x vs H2 px a W2 => q x _ H2 px (.raw a) W2⟩
theorem ew_tup {ts : TA} {ds : α → List PyData} {n : Nat} (h : Ewa c ρ ts (fun x => (ds x).map .dat) P ρ1) (hn : ∀ x, (ds x).length = n) (hl : Nat.ble n 100000 = true := by rfl) : Ew c ρ (tTupF ts) (fun x => .tuple (ds x)) P ρ1 := fun T σ H W Q q =>
  h T σ H W _ fun x vs H1 px a W1 => ⟨dpa_sz (aa_dats a) (by rw [hn]; exact Nat.le_of_ble_eq_true hl), fun p o z hp => q x _ _ px (tup_new W1 (aa_dats a) z hp)⟩
theorem ewl_lst {ts : TA} {ds : α → List PyData} {n : Nat} (h : Ewa c ρ ts (fun x => (ds x).map .dat) P ρ1) (hn : ∀ x, (ds x).length = n) (hl : Nat.ble n 100000 = true := by rfl) : EwL c ρ (tLst ts) ds P ρ1 := fun T σ H W Q q =>
  h T σ H W _ fun x vs H1 px a W1 => ⟨dpa_sz (aa_dats a) (by rw [hn]; exact Nat.le_of_ble_eq_true hl), fun p hp => by
    obtain ⟨x1, x2, x3, x4⟩ := el_new W1 (aa_dats a) hp
    exact q x p _ px x1 x2 x3 x4⟩
theorem ew_call {R : List PyData → PyData → Prop} {ts : TA} {ds : α → List PyData} {E : XK} {F : α → γ} (h : Ewa c ρ ts (fun x => (ds x).map .dat) P ρ1) (hR : ∀ x, P x → R (ds x) (e (F x))) :
    Ew c ρ (tCall (SpP c.K R) [] E ts) e (fun z => ∃ x, P x ∧ z = F x) ρ1 := fun T σ H W Q q => h T σ H W _ fun x vs H1 px a W1 => by
  rw [List.append_nil]
  exact ⟨hid c ρ1, ds x, e (F x), fun a h => W1.there h, aa_dats a, hR x px, fun v H' e dp => q _ v H' ⟨x, px, rfl⟩ ((W1.grow e).push dp)⟩
/-! #### the state that draws come from -/
/-- a list of four: the script, what is left of the cell, the place, the seed -/
def StOk (ds : List PyData) : Prop := ∃ (l : List Int) (cur pos seed : Nat), ds = [.list (l.map .int), .int (cur : Int), .int (pos : Int), .int (seed : Int)]
/-- a def that draws: its first argument is the state; Φ: what may come out -/
def SpW (K : PySem.W.Frag) (R : List PyData → (PyData → Prop) → Prop) : Sp := fun vs H Q _ => ∃ (S : List Addr) (a : Addr) (vs' : List V) (ds : List PyData) (Φ : PyData → Prop), vs = .ref a :: vs' ∧ a ∈ S ∧ (∀ b ∈ S, ∃ o, H b = some o) ∧
  MoOk K S H a (.any StOk) ∧ DzAll K (hide S H) vs' ds ∧ R ds Φ ∧ ∀ d v H', Φ d → (∀ b o, b ≠ a → H b = some o → H' b = some o) → MoOk K S H' a (.any StOk) → Dz K (hide S H') v d → Q v H'
theorem set_same {ρ : List Sl} {i : Nat} {s : Sl} (h : ρ[i]? = some s) : ρ.set i s = ρ := by
  apply List.ext_getElem?
  intro k
  by_cases q : i = k
  · subst q
    rw [List.getElem?_set_self (List.getElem?_eq_some_iff.mp h).1, h]
  · rw [List.getElem?_set_ne q]
theorem ew_callW {R : List PyData → (PyData → Prop) → Prop} {ts : TA} {ds : α → List PyData} {E : XK} {i : Nat} {l : Bool} {a : Addr} {P3 : α → γ → Prop} (h : Ewa c ρ ts (fun x => .raw (.ref a) :: (ds x).map .dat) P ρ1) (hi : ρ1[i]? = some (.mu l a (.any StOk)))
    (hR : ∀ x, P x → R (ds x) (fun d => ∃ z, P3 x z ∧ d = e z)) : Ew c ρ (tCall (SpW c.K R) [] E ts) e (fun z => ∃ x, P x ∧ P3 x z) ρ1 := fun T σ H W Q q => h T σ H W _ fun x vs H1 px aa W1 => by
  rw [List.append_nil]
  cases aa with
  | raw aa =>
    have hm : a ∈ hid c ρ1 := List.mem_append_right _ (mem_muts.mpr ⟨i, l, _, hi⟩)
    refine ⟨hid c ρ1, a, _, ds x, _, rfl, hm, fun a h => W1.there h, (W1.ok i _ hi).2.2, aa_dats aa, hR x px, fun d v H' ⟨z, hz, ed⟩ hk mo dp => ?_⟩
    subst ed
    have W2 := W1.chg hi hk mo
    rw [set_same hi] at W2
    exact q z v H' ⟨x, px, hz⟩ (W2.push dp)
/-! #### tests -/
theorem ew_ite {ca cb : Bool → Prop} (h : Ewt c ρ t ca ρ1) {f : α → PyData} {P P2 : α → Prop} (h1 : ca true → Ew c ρ1 ta f P ρ2) (h2 : ca false → Ew c ρ1 tb f P2 ρ2) : Ew c ρ (tIf t ta tb) f (fun x => (ca true ∧ P x) ∨ (ca false ∧ P2 x)) ρ2 := fun T σ H W Q q => h T σ H W _ fun b H1 hb W1 => by
  cases b with
  | true => exact h1 hb T σ H1 W1 Q fun x v H2 px W2 => q x v H2 (.inl ⟨hb, px⟩) W2
  | false => exact h2 hb T σ H1 W1 Q fun x v H2 px W2 => q x v H2 (.inr ⟨hb, px⟩) W2
theorem ewt_test {P3' : Bool → Prop} (h : Ew c ρ te (fun b => .bool b) P3' ρ1) : Ewt c ρ (tTest te) P3' ρ1 := fun T σ H W Q q => h T σ H W _ fun b v H1 pb W1 => ⟨b, dp_bl W1.dp, q b H1 pb W1.pop⟩
theorem ewt_tru {R : Bool → Prop} (h : Ew c ρ te f P ρ1) (ok : ∀ x, P x → truOk (f x) = true) (hR : ∀ x, P x → R (truD (f x))) : Ewt c ρ (fun σ H Q => te σ H fun x H' => ∃ k, TruV c.K x H' k ∧ Q k H') R ρ1 := fun T σ H W Q q => h T σ H W _ fun x v H1 px W1 =>
  ⟨_, tru_dp (dpm (hide_ex _ _) W1.dp) (ok x px), q _ H1 (hR x px) W1.pop⟩
theorem ewt_and {A B : Bool → Prop} (h1 : Ewt c ρ t A ρ1) (h2 : A true → Ewt c ρ1 u B ρ1) : Ewt c ρ (tAnd t u) (fun b => (A false ∧ b = false) ∨ (A true ∧ B b)) ρ1 := fun T σ H W Q q => h1 T σ H W _ fun a H1 ha W1 => by
  cases a with
  | true => exact h2 ha T σ H1 W1 Q fun b H2 hb W2 => q b H2 (.inr ⟨ha, hb⟩) W2
  | false => exact q false H1 (.inl ⟨ha, rfl⟩) W1
theorem ewt_or {A B : Bool → Prop} (h1 : Ewt c ρ t A ρ1) (h2 : A false → Ewt c ρ1 u B ρ1) : Ewt c ρ (tOr t u) (fun b => (A true ∧ b = true) ∨ (A false ∧ B b)) ρ1 := fun T σ H W Q q => h1 T σ H W _ fun a H1 ha W1 => by
  cases a with
  | true => exact q true H1 (.inl ⟨ha, rfl⟩) W1
  | false => exact h2 ha T σ H1 W1 Q fun b H2 hb W2 => q b H2 (.inr ⟨ha, hb⟩) W2
theorem ewt_not {A : Bool → Prop} (h1 : Ewt c ρ t A ρ1) : Ewt c ρ (tNot t) (fun b => A (!b)) ρ1 := fun T σ H W Q q => h1 T σ H W _ fun a H1 ha W1 => q _ H1 (by show A (!(!a)); rw [Bool.not_not]; exact ha) W1
theorem ewt_imp {A B : Bool → Prop} (h : Ewt c ρ t A ρ1) (i : ∀ b, A b → B b) : Ewt c ρ t B ρ1 := fun T σ H W Q q => h T σ H W Q fun b H1 hb W1 => q b H1 (i b hb) W1
theorem ew_and {A B : Bool → Prop} (h1 : Ew c ρ ta (fun b => .bool b) A ρ1) (h2 : A true → Ew c ρ1 tb (fun b => .bool b) B ρ1) : Ew c ρ (tAndV ta tb) (fun b => .bool b) (fun b => (A false ∧ b = false) ∨ (A true ∧ B b)) ρ1 := fun T σ H W Q q => h1 T σ H W _ fun a v H1 ha W1 => ⟨a, dp_bl W1.dp, by
  cases a with
  | true => exact h2 ha T σ H1 W1.pop Q fun b v H2 hb W2 => q b v H2 (.inr ⟨ha, hb⟩) W2
  | false => exact q false _ H1 (.inl ⟨ha, rfl⟩) (W1.pop.push (.bl _))⟩
/-! #### walks, comprehensions -/
def Eiw {α : Type} (c : Cz) (ρ : List Sl) (wi : TI) (its : α → List Itm) (P : α → Prop) (ρ' : List Sl) : Prop := ∀ (T : Tm) (σ : L2.St) (H : Hp), Wd c T H σ ρ → ∀ R : It → Hp → Prop, (∀ x J H' T1, P x → Wd c (T1 ++ T) H' σ ρ' → Walks c.K J T1 (its x) → R J H') → wi σ H R
theorem eiw_det {wi : TI} {its : α → List Itm} {x : α} (h : Ei c ρ wi (its x) ρ1) : Eiw c ρ wi its (fun y => y = x) ρ1 := fun T σ H W R q => h T σ H W R fun J H1 T1 W1 hw => q x J H1 T1 rfl W1 hw
theorem eiw_rng {P : Int → Prop} (h : Ew c ρ te PyData.int P ρ1) (hn : ∀ n, P n → -4000000000 ≤ n ∧ n ≤ 4000000000) : Eiw c ρ (iRng1 (tCons te tNil)) (fun n : Int => (List.range n.toNat).map fun (i : Nat) => Itm.hard (PyData.int (i : Int))) P ρ1 := fun T σ H W R q => h T σ H W _ fun n v H1 pn W1 => by
  have hh := hn n pn
  refine ⟨n, by rw [dp_int W1.dp], by omega, by omega, ?_⟩
  refine q n _ H1 [] pn W1.pop ?_
  have := walks_rng c.K 0 n.toNat
  unfold hards rngD at this
  simp only [Int.zero_add, List.map_map] at this
  exact this
/-- a comprehension, by what holds of the items so far -/
theorem el_lcN {wi : TI} {g : TG} {tt : TT} {vs : List Nat} {its : α → List Itm} (h : Eiw c ρ wi its P ρ1) (J : α → Nat → List PyData → Prop) (hJ : ∀ x, P x → J x 0 []) (hsz : ∀ x, P x → (its x).length ≤ 100000) (hvs : ∀ j ∈ vs, ρ1[j]? = some .no)
    (turn : ∀ (S : List Addr) (B : Hp) (x : α) (i : Nat) (d : Itm) (acc : List PyData), P x → (its x)[i]? = some d → J x i acc → ∃ (ρa : List Sl) (bp : Bool → Prop), Nz.wipeS ρa vs = ρ1 ∧ Eg (c.at S B) g d ρ1 ρa vs ∧ Ewt (c.at S B) ρa tt bp ρa ∧
      (bp true → Ew (c.at S B) ρa te (fun d => d) (fun d' => J x (i + 1) (acc ++ [d'])) ρa) ∧ (bp false → J x (i + 1) acc)) : EwL c ρ (tLc wi g tt te vs) (fun l : List PyData => l) (fun l => ∃ x, P x ∧ J x (its x).length l) ρ1 := fun T σ H W Q q =>
  h T σ H W _ fun x It H1 T1 px W1 hw D hD => by
    have hB := W1.freshB hD
    have hsub := W1.sub
    have nS : D ∉ c.S0 := fun m => W1.fresh hD (List.mem_append_left _ m)
    have nM : D ∉ c.M := fun m => nS (hsub D m)
    obtain ⟨_, hDn, mo0, Wh⟩ := el_new W1 (.nil) hD
    have eP : ∀ {H2 : Hp}, Wd (c.hidden D) (T1 ++ T) H2 (L2.wipe σ vs) ρ1 → D ∉ hid c ρ1 := fun W2 => W2.notin nS hsub
    have hs := hsz x px
    refine ⟨fun i m H2 => i + m = (its x).length ∧ ∃ acc, acc.length ≤ i ∧ J x i acc ∧ Wd (c.hidden D) (T1 ++ T) H2 (L2.wipe σ vs) ρ1 ∧ MoOk c.K (D :: hid c ρ1) H2 D (.lst acc), ⟨(its x).length, by omega, [], Nat.le_refl _, hJ x px, Wh.wipe hvs, mo0⟩, fun i m H2 ⟨hm, acc, la, ja, W2, mo⟩ => ?_⟩
    by_cases hi : i < (its x).length
    · obtain ⟨xs, hxs, dxs⟩ := mo
      have lx := dpa_length dxs
      have W2a : Wd (c.at (D :: c.S0) (upd c.B D (.lst xs))) (T1 ++ T) H2 (L2.wipe σ vs) ρ1 := W2.pin hxs hB hsub nS
      have W2b : Wd (c.at (D :: c.S0) (upd c.B D (.lst xs))) (xs.zip acc ++ (T1 ++ T)) H2 (L2.wipe σ vs) ρ1 := W2a.pushAll dxs
      have W2c : Wd (c.at (D :: c.S0) (upd c.B D (.lst xs))) (T1 ++ (xs.zip acc ++ T)) H2 (L2.wipe σ vs) ρ1 := W2b.tmps fun p hp => by
        simp only [List.mem_append] at hp ⊢
        rcases hp with hp | hp | hp
        · exact .inr (.inl hp)
        · exact .inl hp
        · exact .inr (.inr hp)
      have hwk := hw (c.at (D :: c.S0) (upd c.B D (.lst xs))) _ _ _ _ rfl W2c
      refine .inr ⟨(hwk.1 i hi).1, fun H3 => ∃ acc, acc.length ≤ i + 1 ∧ J x (i + 1) acc ∧ Wd (c.hidden D) (T1 ++ T) H3 (L2.wipe σ vs) ρ1 ∧ MoOk c.K (D :: hid c ρ1) H3 D (.lst acc), fun H3 ⟨ac, h3⟩ => ⟨m - 1, by omega, by omega, ac, h3⟩, fun y H3 hy => ?_⟩
      obtain ⟨d, hd, W3⟩ := (hwk.1 i hi).2 y H3 hy
      obtain ⟨ρa, bp, hwp, g1, g2, g3, g4⟩ := turn (D :: c.S0) (upd c.B D (.lst xs)) x i d acc px hd ja
      refine g1 _ _ _ _ W3 _ fun σ2 H4 W4 ew => ⟨by rw [ew, wipe_wipe], g2 _ σ2 H4 W4 _ fun b H5 pb W5 => ?_⟩
      rw [wipe_wipe] at ew
      cases b with
      | true =>
        rw [if_pos rfl]
        refine g3 pb _ σ2 H5 W5 _ fun d' z H6 jz W6 => ?_
        have W7 := W6.wipeS vs
        rw [hwp, ew] at W7
        obtain ⟨hx6, W8⟩ := W7.unpin hB nM
        have hn8 := W8.notin nS hsub
        refine ⟨xs, hx6, Nat.lt_of_lt_of_le (show xs.length < 100000 by omega) (by decide), acc ++ [d'], by simp; omega, jz, ?_, ?_⟩
        · refine (W8.updHid hB hn8).tmps fun p hp => List.mem_cons_of_mem _ ?_
          simp only [List.mem_append] at hp ⊢
          rcases hp with hp | hp
          · exact .inl hp
          · exact .inr (.inr hp)
        · refine ⟨xs ++ [z], upd_same, ?_⟩
          have W9 := W8.updHid (u := .lst (xs ++ [z])) hB hn8
          have a1 : DzAll c.K (hide (hid (c.hidden D) ρ1) (upd H6 D (.lst (xs ++ [z])))) xs acc := Wd.allOf (T := (z, d') :: (T1 ++ T)) lx (W9.tmps fun p hp => by
            simp only [List.mem_append, List.mem_cons] at hp ⊢
            rcases hp with hp | hp | hp | hp
            · exact .inr (.inr (.inl hp))
            · exact .inl hp
            · exact .inr (.inl hp)
            · exact .inr (.inr (.inr hp)))
          exact dpa_append a1 (.cons (W9.tmp (z, d') (List.mem_cons_self ..)) .nil)
      | false =>
        rw [if_neg (by decide)]
        have W7 := W5.wipeS vs
        rw [hwp, ew] at W7
        obtain ⟨hx6, W8⟩ := W7.unpin hB nM
        refine ⟨acc, by omega, g4 pb, W8.tmps fun p hp => ?_, xs, hx6, ?_⟩
        · simp only [List.mem_append] at hp ⊢
          rcases hp with hp | hp
          · exact .inl hp
          · exact .inr (.inr hp)
        · exact Wd.allOf (T := T1 ++ T) lx (W8.tmps fun p hp => by
            simp only [List.mem_append, List.mem_cons] at hp ⊢
            rcases hp with hp | hp | hp
            · exact .inr (.inl hp)
            · exact .inl hp
            · exact .inr (.inr hp))
    · have ei : i = (its x).length := by omega
      subst ei
      refine .inl ⟨(hw (c.hidden D) T (L2.wipe σ vs) H2 ρ1 rfl W2).2 _ (Nat.le_refl _), ?_⟩
      have W4 : Wd (c.hidden D) T H2 (L2.wipe σ vs) ρ1 := W2.tmps fun p hp => List.mem_append_right _ hp
      exact q acc D H2 ⟨x, px, ja⟩ hB (eP W2) mo (W4.unwipe hvs)
/-- one for each item -/
inductive Fa {α β : Type} (R : α → β → Prop) : List α → List β → Prop
  | nil : Fa R [] []
  | cons {a : α} {b : β} {l : List α} {m : List β} : R a b → Fa R l m → Fa R (a :: l) (b :: m)
theorem Fa.len {R : α → β → Prop} {l : List α} {m : List β} (h : Fa R l m) : m.length = l.length := by
  induction h with
  | nil => rfl
  | cons _ _ ih => rw [List.length_cons, List.length_cons, ih]
theorem Fa.snoc {R : α → β → Prop} {l : List α} {m : List β} {a : α} {b : β} (h : Fa R l m) (r : R a b) : Fa R (l ++ [a]) (m ++ [b]) := by
  induction h with
  | nil => exact .cons r .nil
  | cons r' _ ih => exact .cons r' ih
theorem Fa.mem {R : α → β → Prop} {l : List α} {m : List β} (h : Fa R l m) : ∀ b ∈ m, ∃ a ∈ l, R a b := by
  induction h with
  | nil => intro b hb; cases hb
  | cons r _ ih =>
    intro b hb
    rcases List.mem_cons.mp hb with e | hb
    · subst e; exact ⟨_, List.mem_cons_self .., r⟩
    · obtain ⟨a, ha, r⟩ := ih b hb
      exact ⟨a, List.mem_cons_of_mem _ ha, r⟩
/-- all items, each made in its ways -/
theorem el_lcW {δ : Type} {wi : TI} {g : TG} {vs : List Nat} {xs : α → List δ} {ea : δ → Itm} {eb : γ → PyData} {R : α → δ → γ → Prop} (h : Eiw c ρ wi (fun a => (xs a).map ea) P ρ1) (hsz : ∀ x, P x → (xs x).length ≤ 100000) (hvs : ∀ j ∈ vs, ρ1[j]? = some .no)
    (turn : ∀ (S : List Addr) (B : Hp) (a : α) (x : δ), P a → x ∈ xs a → ∃ ρa, Nz.wipeS ρa vs = ρ1 ∧ Eg (c.at S B) g (ea x) ρ1 ρa vs ∧ Ew (c.at S B) ρa te eb (R a x) ρa) :
    EwL c ρ (tLc wi g tYes te vs) (fun l : List γ => l.map eb) (fun l => ∃ a, P a ∧ Fa (R a) (xs a) l) ρ1 := fun T σ H W Q q => by
  refine el_lcN (c := c) (tt := tYes) (te := te) (vs := vs) h (fun a i acc => ∃ l : List γ, acc = l.map eb ∧ Fa (R a) ((xs a).take i) l) (fun a _ => ⟨[], rfl, by rw [List.take_zero]; exact .nil⟩) (fun a pa => by rw [List.length_map]; exact hsz a pa) hvs (fun S B a i d acc pa hd ⟨l, hl, hf⟩ => ?_) T σ H W Q (fun l p H' ⟨a, pa, l', e, hf⟩ h1 h2 h3 W1 => ?_)
  · rw [List.getElem?_map] at hd
    cases hx : (xs a)[i]? with
    | none => rw [hx] at hd; cases hd
    | some x =>
      rw [hx] at hd
      have hd : ea x = d := Option.some.inj hd
      subst hd
      obtain ⟨ρa, hw, g1, g2⟩ := turn S B a x pa (List.mem_of_getElem? hx)
      refine ⟨ρa, fun b => b = true, hw, g1, fun T σ H W Q q => q true H rfl W, fun _ => ew_as g2 fun z hz => ⟨eb z, ⟨l ++ [z], by rw [hl, List.map_append]; rfl, ?_⟩, rfl⟩, fun e => by cases e⟩
      rw [List.take_add_one, hx]
      exact hf.snoc hz
  · subst e
    rw [List.length_map, List.take_length] at hf
    exact q l' p H' ⟨a, pa, hf⟩ h1 h2 h3 W1
/-! ### statements -/
variable {D : Ends} {ts tu : TS} {gt : TG} {nx bk ct : L2.St → Hp → Prop} {rt : VK}
theorem s_asgGW {ws : List Nat} {ρ2 : α → List Sl} (h : Ew c ρ te f P ρ1) (hg : ∀ x, P x → Eg c gt (.hard (f x)) ρ1 (ρ2 x) ws) (k : ∀ x, P x → Sk c T (ρ2 x) nx) : Ss c T ρ (tAsg te gt) ⟨nx, rt, bk, ct⟩ := fun σ H W => h T σ H W _ fun x v H1 px W1 => hg x px T σ H1 v W1 _ fun σ2 H2 W2 _ => k x px σ2 H2 W2
theorem s_asgW {i : Nat} (h : Ew c ρ te f P ρ1) (k : ∀ x, P x → Sk c T (ρ1.set i (.da (f x))) nx) : Ss c T ρ (tAsg te (gName i)) ⟨nx, rt, bk, ct⟩ := s_asgGW (ws := [i]) (ρ2 := fun x => ρ1.set i (.da (f x))) h (fun x _ => eg_name (List.mem_cons_self ..)) k
theorem s_asgMW {i : Nat} {f : α → List PyData} (h : EwL c ρ te f P ρ1) (k : ∀ x, P x → ∀ p, Sk c T (ρ1.set i (.mu true p (.lst (f x)))) nx) : Ss c T ρ (tAsg te (gName i)) ⟨nx, rt, bk, ct⟩ := fun σ H W =>
  h T σ H W _ fun x p H1 px hB hn mo W1 => k x px p _ _ (W1.setM W.sub i (by rw [if_pos rfl]; exact hB) hn mo)
theorem s_parW {i j : Nat} {ta tb : TE} (h : Ew c ρ ta f P ρ1) (h2 : Ew c ρ1 tb g P2 ρ2) (k : ∀ x y, P x → P2 y → Sk c T ((ρ2.set i (.da (f x))).set j (.da (g y))) nx) : Ss c T ρ (tPar i j (tCons ta (tCons tb tNil))) ⟨nx, rt, bk, ct⟩ := fun σ H W =>
  h T σ H W _ fun x v H1 px W1 => h2 _ σ H1 W1 _ fun y w H2 py W2 => by
    refine ⟨v, w, rfl, ?_⟩
    have W3 : Wd c ((v, f x) :: T) H2 σ ρ2 := W2.pop
    have W4 := W2.setD i W3.dp
    have W5 := W4.setD j W4.dp
    exact k x y px py _ _ W5.pop.pop
theorem s_ifW {A : Bool → Prop} (h : Ewt c ρ t A ρ1) (h1 : A true → Ss c T ρ1 ts D) (h2 : A false → Ss c T ρ1 tu D) : Ss c T ρ (tIfS t ts tu) D := fun σ H W => h T σ H W _ fun b H1 hb W1 => by
  cases b with
  | true => exact h1 hb σ H1 W1
  | false => exact h2 hb σ H1 W1
theorem s_dropW (h : Ew c ρ te f P ρ1) (k : ∀ x, P x → Sk c T ρ1 nx) : Ss c T ρ (tDrop te) ⟨nx, rt, bk, ct⟩ := fun σ H W => h T σ H W _ fun x v H1 px W1 => k x px σ H1 W1.pop
theorem s_open {i : Nat} {l : Bool} {a : Addr} {P : List PyData → Prop} {nx : L2.St → Hp → Prop} (h : ρ[i]? = some (.mu l a (.any P))) (k : ∀ ds, P ds → Sk c T (ρ.set i (.mu l a (.lst ds))) nx) : Sk c T ρ nx := fun σ H W => by
  obtain ⟨_, _, xs, h1, ds, p, h2⟩ := W.ok i _ h
  exact k ds p σ H (W.chg h (fun _ _ _ e => e) ⟨xs, h1, h2⟩)
/-- what a def that draws must return -/
def RtW (c : Cz) (a : Addr) (Φ : PyData → Prop) (rt : VK) : Prop := ∀ d, Φ d → Rt c d [(a, .any StOk)] rt
theorem s_retW {i : Nat} {l : Bool} {a : Addr} {Φ : PyData → Prop} (h : Ew c ρ te f P ρ1) (hi : ρ1[i]? = some (.mu l a (.any StOk))) (hr : RtW c a Φ D.rt) (hp : ∀ x, P x → Φ (f x)) : Ss c T ρ (tRet te) D := fun σ H W => h T σ H W _ fun x v H1 px W1 =>
  hr (f x) (hp x px) v H1 W1.keep (fun p hp => by
    simp only [List.mem_singleton] at hp
    subst hp
    exact (W1.ok i _ hi).2.2.mono hide_S0 rfl) (dpm hide_S0 W1.dp)
/-- a for that draws: its state is any that holds -/
theorem s_forN {β : Type} {wi : TI} {tbd : TS} (xs : List α) (ea : α → Itm) (h : Ei c ρ wi (xs.map ea) ρ1) (P : Nat → β → Prop) (I : Nat → β → List Sl) (b0 : β) (hP : P 0 b0) (h0 : Le ρ1 (I 0 b0))
    (hs : ∀ (T' : Tm), (∀ p ∈ T, p ∈ T') → ∀ (i : Nat) (x : α) (b : β), xs[i]? = some x → P i b → ∃ ρa ws, Eg c gt (ea x) (I i b) ρa ws ∧ Ss c T' ρa tbd ⟨fun σ H => ∃ b', P (i + 1) b' ∧ Wd c T' H σ (I (i + 1) b'), rt, nx, fun σ H => ∃ b', P (i + 1) b' ∧ Wd c T' H σ (I (i + 1) b')⟩)
    (hd : ∀ b, P xs.length b → Sk c T (I xs.length b) nx) : Ss c T ρ (tFor wi gt tbd) ⟨nx, rt, bk, ct⟩ := fun σ H W => h T σ H W _ fun J H1 T1 W1 hw => by
  rw [← List.length_map (f := ea)] at hd
  refine ⟨fun i m σ' H' => i + m = (xs.map ea).length ∧ ∃ b, P i b ∧ Wd c (T1 ++ T) H' σ' (I i b), ⟨(xs.map ea).length, by omega, b0, hP, W1.le h0⟩, fun i m σ' H' ⟨hm, b, pb, W2⟩ => ?_⟩
  have hwk := hw c T σ' H' (I i b) rfl W2
  by_cases hi : i < (xs.map ea).length
  · refine .inr ⟨(hwk.1 i hi).1, fun σ3 H3 => ∃ b', P (i + 1) b' ∧ Wd c (T1 ++ T) H3 σ3 (I (i + 1) b'), fun σ3 H3 h3 => ⟨m - 1, by omega, by omega, h3⟩, fun x H3 hy => ?_⟩
    obtain ⟨d, hd', W3⟩ := (hwk.1 i hi).2 x H3 hy
    rw [List.getElem?_map] at hd'
    cases hx : xs[i]? with
    | none => rw [hx] at hd'; cases hd'
    | some z =>
      rw [hx] at hd'
      have hd' : ea z = d := Option.some.inj hd'
      subst hd'
      obtain ⟨ρa, ws, g1, g2⟩ := hs (T1 ++ T) (fun p hp => List.mem_append_right _ hp) i z b hx pb
      exact g1 _ σ' H3 x W3 _ fun σ4 H4 W4 _ => g2 σ4 H4 W4
  · have ei : i = (xs.map ea).length := by omega
    subst ei
    exact .inl ⟨hwk.2 _ (Nat.le_refl _), hd b pb σ' H' (W2.tmps fun p hp => List.mem_append_right _ hp)⟩
theorem s_endN {β : Type} {P : β → Prop} {I : β → List Sl} (b' : β) (hP : P b') (h : Le ρ (I b')) : Sk c T ρ (fun σ H => ∃ b', P b' ∧ Wd c T H σ (I b')) := fun σ H W => ⟨b', hP, W.le h⟩
end
/-! ### a def that draws -/
theorem startW {K : PySem.W.Frag} {N : List Str} {vs : List V} {ds : List PyData} {S : List Addr} {H : Hp} {a : Addr} (hd : ∀ a ∈ S, ∃ o, H a = some o) (hm : a ∈ S) (mo : MoOk K S H a (.any StOk)) (da : DzAll K (hide S H) vs ds) (hl : ds.length + 1 ≤ N.length) :
    Wd ⟨K, H, [a], S⟩ [] H (L2.start N (.ref a :: vs)) (.mu false a (.any StOk) :: (ds.map .da ++ List.replicate (N.length - (ds.length + 1)) .no)) := by
  have W0 := start_wd (M := []) (N := N.drop 1) hd da (by rw [List.length_drop]; omega)
  have nm : ∀ (i : Nat) (l : Bool) (b : Addr) (o : MO), (ds.map Sl.da ++ List.replicate (N.length - (ds.length + 1)) Sl.no)[i]? ≠ some (.mu l b o) := fun i l b o e => by
    have := List.mem_of_getElem? e
    simp at this
  have hid0 : ∀ b, b ∈ hid ⟨K, H, [a], S⟩ (.mu false a (.any StOk) :: (ds.map Sl.da ++ List.replicate (N.length - (ds.length + 1)) Sl.no)) → b ∈ S := fun b m => by
    rcases List.mem_append.mp m with m | m
    · exact m
    · obtain ⟨i, l, o, e⟩ := mem_muts.mp m
      cases i with
      | zero => cases e; exact hm
      | succ i => exact absurd e (nm i l b o)
  have hid1 : ∀ b, b ∈ S → b ∈ hid ⟨K, H, [a], S⟩ (.mu false a (.any StOk) :: (ds.map Sl.da ++ List.replicate (N.length - (ds.length + 1)) Sl.no)) := fun b m => List.mem_append_left _ m
  have e1 : Ex (hide S H) (hide (hid ⟨K, H, [a], S⟩ (.mu false a (.any StOk) :: (ds.map Sl.da ++ List.replicate (N.length - (ds.length + 1)) Sl.no))) H) := hide_mono fun b o n h => ⟨fun m => n (hid0 b m), h⟩
  have hN : (N.drop 1).length - ds.length = N.length - (ds.length + 1) := by rw [List.length_drop]; omega
  have st : L2.start N (.ref a :: vs) = some (.ref a) :: L2.start (N.drop 1) vs := by
    unfold L2.start
    rw [List.map_cons, List.cons_append, List.length_cons, List.length_drop]
    have : N.length - (vs.length + 1) = N.length - 1 - vs.length := by omega
    rw [this]
  rw [st]
  rw [hN] at W0
  refine ⟨?_, fun b o _ h => h, fun b m => by simp at m; rw [m]; exact hm, hd, fun p hp => (nomatch hp), fun i j l m b o u h1 h2 => ?_, fun i b o h => ?_, fun i s e => ?_⟩
  · have := W0.len
    simp only [List.length_cons]
    rw [this]
  · cases i with
    | zero =>
      cases j with
      | zero => rfl
      | succ j => exact absurd h2 (nm j m b u)
    | succ i => exact absurd h1 (nm i l b o)
  · cases i with
    | zero => cases h
    | succ i => exact absurd h (nm i true b o)
  · cases i with
    | zero => cases e; exact ⟨rfl, by simp, mo.mono e1 rfl⟩
    | succ i =>
      have ok := W0.ok i s e
      have hh : hid ⟨K, H, [], S⟩ (ds.map Sl.da ++ List.replicate (N.length - (ds.length + 1)) Sl.no) = S := by
        have z : muts (ds.map Sl.da ++ List.replicate (N.length - (ds.length + 1)) Sl.no) = [] := by
          apply List.eq_nil_iff_forall_not_mem.mpr
          intro b m
          obtain ⟨i, l, o, e⟩ := mem_muts.mp m
          exact nm i l b o e
        show S ++ muts _ = S
        rw [z, List.append_nil]
      rw [hh] at ok
      have := slOk_mono (H' := H) e1 (fun _ _ => rfl) ok
      cases s with
      | mu l b o => exact absurd e (nm i l b o)
      | _ => exact this
theorem fn_draws {K : PySem.W.Frag} {R : List PyData → (PyData → Prop) → Prop} {N : List Str} {ts : TS} (hN : ∀ ds Φ, R ds Φ → ds.length + 1 ≤ N.length)
    (h : ∀ (B : Hp) (S : List Addr) (a : Addr) (ds : List PyData) (Φ : PyData → Prop), R ds Φ → ∀ D : Ends, RtW ⟨K, B, [a], S⟩ a Φ D.rt → Ss ⟨K, B, [a], S⟩ [] (.mu false a (.any StOk) :: (ds.map .da ++ List.replicate (N.length - (ds.length + 1)) .no)) ts D)
    (vs : List V) (H : Hp) (Q : VK) (E : XK) (hs : SpW K R vs H Q E) : ts { nx := fun _ H' => Q .non H', rt := Q } (L2.start N vs) H := by
  obtain ⟨S, a, vs', ds, Φ, rfl, hm, hd, mo, da, hR, q⟩ := hs
  refine h H S a ds Φ hR { nx := fun _ H' => Q .non H', rt := Q } (fun d hd v H' k ms dp => q d v H' hd (fun b o n e => k b o (by simpa using n) e) (ms (a, .any StOk) (List.mem_cons_self ..)) dp) _ _ (startW hd hm mo da (hN _ _ hR))
theorem spW_len {K : PySem.W.Frag} {Rl : List PyData → (PyData → Prop) → Prop} {ps : List Str} (h : ∀ ds Φ, Rl ds Φ → ds.length + 1 = ps.length) : ∀ vs H Q, SpW K Rl vs H Q E0 → vs.length = ps.length := fun vs H Q ⟨S, a, vs', ds, Φ, e, _, _, _, da, r, _⟩ => by
  rw [e, List.length_cons, dpa_length da]; exact h ds Φ r
/-! ### a def that returns a new list -/
def SpL (K : PySem.W.Frag) (R : List PyData → List PyData → Prop) : Sp := fun vs H Q _ => ∃ (S : List Addr) (ds es : List PyData), (∀ a ∈ S, ∃ o, H a = some o) ∧ DzAll K (hide S H) vs ds ∧ R ds es ∧
  ∀ p H', Ex H H' → H p = none → MoOk K (p :: S) H' p (.lst es) → Q (.ref p) H'
theorem spL_len {K : PySem.W.Frag} {Rl : List PyData → List PyData → Prop} {ps : List Str} (h : ∀ ds d, Rl ds d → ds.length = ps.length) : ∀ vs H Q, SpL K Rl vs H Q E0 → vs.length = ps.length := fun vs H Q ⟨S, ds, d, _, a, r, _⟩ => (dpa_length a).trans (h ds d r)
def RtL (c : Cz) (es : List PyData) (rt : VK) : Prop := ∀ p H', (∀ a o, a ∉ c.M → c.B a = some o → H' a = some o) → c.B p = none → MoOk c.K (p :: c.S0) H' p (.lst es) → rt (.ref p) H'
theorem s_retL {c : Cz} {T : Tm} {ρ ρ1 : List Sl} {te : TE} {es : List PyData} {D : Ends} (h : EdL c ρ te es ρ1) (hr : RtL c es D.rt) : Ss c T ρ (tRet te) D := fun σ H W => h T σ H W _ fun p H1 hB hn mo W1 => hr p H1 W1.keep hB (by
  obtain ⟨xs, h1, h2⟩ := mo
  exact ⟨xs, h1, dpam (hide_mono fun a o n h => ⟨fun m => n (by
    rcases List.mem_cons.mp m with e | m
    · rw [e]; exact List.mem_cons_self ..
    · exact List.mem_cons_of_mem _ (List.mem_append_left _ m)), h⟩) h2⟩)
theorem fn_new {K : PySem.W.Frag} {R : List PyData → List PyData → Prop} {N : List Str} {ts : TS} (hN : ∀ ds d, R ds d → ds.length ≤ N.length)
    (h : ∀ (B : Hp) (S : List Addr) (ds es : List PyData), R ds es → ∀ D : Ends, RtL ⟨K, B, [], S⟩ es D.rt → Ss ⟨K, B, [], S⟩ [] (ds.map .da ++ List.replicate (N.length - ds.length) .no) ts D)
    (vs : List V) (H : Hp) (Q : VK) (E : XK) (hs : SpL K R vs H Q E) : ts { nx := fun _ H' => Q .non H', rt := Q } (L2.start N vs) H := by
  obtain ⟨S, ds, es, hd, a, hR, q⟩ := hs
  exact h H S ds es hR { nx := fun _ H' => Q .non H', rt := Q } (fun p H' k hB mo => q p H' (fun a o e => k a o (fun m => nomatch m) e) hB mo) _ _ (start_wd (M := []) hd a (hN _ _ hR))
theorem Wd.hideNew' {c : Cz} {T : Tm} {H H' : Hp} {σ : L2.St} {ρ : List Sl} {p : Addr} {o : HO} (W : Wd c T H σ ρ) (e : Ex H H') (h : H p = none) (h' : H' p = some o) : Wd (c.hidden p) T H' σ ρ := by
  have W2 := W.grow e
  have n := W.fresh h
  have e2 : Ex (hide (hid c ρ) H) (hide (hid (c.hidden p) ρ) H') := hide_mono fun a u m q => ⟨fun z => by
    rcases List.mem_cons.mp z with z | z
    · rw [z, h] at q; cases q
    · exact m z, e a u q⟩
  refine ⟨W.len, W2.keep, fun a m => List.mem_cons_of_mem _ (W.sub a m), fun a m => ?_, fun q hq => dpm e2 (W.tmp q hq), W.inj, fun i a u q m => ?_, fun i s m => ?_⟩
  · rcases List.mem_cons.mp m with m | m
    · rw [m]; exact ⟨o, h'⟩
    · exact W2.dom a m
  · rcases List.mem_cons.mp m with m | m
    · obtain ⟨z, hz⟩ := (W.ok i _ q).2.2.there
      rw [m, h] at hz; cases hz
    · exact W.ap i a u q m
  · have := slOk_mono (c := c) (H' := H') e2 (fun a q => by
      cases s with
      | mu l b o' =>
        cases q
        obtain ⟨u, hu⟩ := (W.ok i _ m).2.2.there
        rw [hu, e _ _ hu]
      | _ => cases q) (W.ok i s m)
    cases s <;> exact this
theorem el_callL {c : Cz} {ρ ρ1 : List Sl} {R : List PyData → List PyData → Prop} {ts : TA} {ds es : List PyData} {E : XK} (h : Ea c ρ ts (ds.map .dat) ρ1) (hR : R ds es) : EdL c ρ (tCall (SpL c.K R) [] E ts) es ρ1 := fun T σ H W Q q => h T σ H W _ fun vs H1 a W1 => by
  rw [List.append_nil]
  refine ⟨hid c ρ1, ds, es, fun a h => W1.there h, aa_dats a, hR, fun p H' e hp mo => ?_⟩
  obtain ⟨xs, h1, h2⟩ := mo
  exact q p H' (W1.freshB hp) (W1.fresh hp) ⟨xs, h1, h2⟩ (W1.hideNew' e hp h1)
/-! #### a[i] op= b -/
section
variable {X : Cx}
theorem get_listG : PGet X (rGetG X.K) := by
  intro pins s σ H x y v u Q I rx ry h
  obtain ⟨p, xs, i, z, rfl, rfl, hq, he, q⟩ := h
  cases rx
  obtain ⟨t, rfl⟩ := ry
  obtain ⟨its, r, pl, hz⟩ := I.list hq
  obtain ⟨j, h1, h2, h3, h4, h5⟩ := atI_get he
  obtain ⟨w, ew, rw'⟩ := r.get h2
  have hl := r.length
  have hn := line63
  have fin : EP X pins σ Q w s := ⟨z, H, I, rw', q⟩
  by_cases h0 : 0 ≤ i
  · have hj : i.toNat = j := by
      rw [seqIndex_of h0 h5] at h1
      exact Option.some.inj h1
    exact PySem.wpAny_getItem_list pl.isList h0 (by omega) (by rw [hj]; simpa using ew) fin
  · have hj : (i + (its.toArray.size : Int)).toNat = j := by
      rw [seqIndex_neg (by omega) h4] at h1
      rw [List.size_toArray, ← hl]
      exact Option.some.inj h1
    exact PySem.wpAny_getItem_list_neg pl.isList (by omega) (by rw [List.size_toArray] <;> omega) (by omega) (by rw [hj]; simpa using ew) fin
theorem ix_any : IxR X (fun x y H Q => rIxL X.K x y H Q ∨ rIxT X.K x y H Q) := ix_list.or ix_tup
end
section
variable {c : Cz} {ρ ρ1 ρ2 : List Sl} {ta tb te : TE} {d : PyData} {T : Tm} {D : Ends} {nx bk ct : L2.St → Hp → Prop} {rt : VK}
theorem s_augSX {i : Nat} {l : Bool} {a : Addr} {f : Int → Int → Int} {xs : List Int} {j y : Int} (hj : Ed c ρ tb (.int j) ρ1) (h : Ed c ρ1 te (.int y) ρ2) (h0 : ∃ l o, ρ[i]? = some (.mu l a o)) (ha : ρ1[i]? = some (.mu l a (.lst (xs.map .int))))
    (ha2 : ρ2[i]? = some (.mu l a (.lst (xs.map .int)))) (hn : 0 ≤ j ∧ j < xs.length) (k : Sk c T (ρ2.set i (.mu l a (.lst ((xs.set j.toNat (f (ixG xs j) y)).map .int)))) nx) : Ss c T ρ (tAugS (tVar i) tb te (rGetG c.K) (ipI f) rSetL) ⟨nx, rt, bk, ct⟩ := fun σ H W => by
  obtain ⟨l0, o0, h0⟩ := h0
  refine ⟨.ref a, (W.ok i _ h0).1, hj T σ H W _ fun w H1 W1 => ?_⟩
  obtain ⟨_, _, ys, h1, h2⟩ := W1.ok i _ ha
  have hix : atI (xs.map PyData.int) j = some (PyData.int (ixG xs j)) := ix_some (f := PyData.int) ⟨by omega, hn.2⟩
  obtain ⟨v, h3, h4⟩ := atI_dp h2 hix
  refine ⟨a, ys, j, v, rfl, dp_int W1.dp, sq_of h1, h3, h _ σ H1 W1 _ fun w2 H2 W2 => ⟨ixG xs j, y, dp_int h4, dp_int W2.dp, ?_⟩⟩
  obtain ⟨_, _, zs, h5, h6⟩ := W2.ok i _ ha2
  refine ⟨a, zs, j, j.toNat, rfl, dp_int W2.pop.dp, h5, by rw [dpa_length h6]; exact ixN_nn (by rw [List.length_map]; exact hn), ?_⟩
  refine k _ _ (W2.pop.pop.updM ha2 ⟨zs.set j.toNat (.int (f (ixG xs j) y)), upd_same, ?_⟩)
  have hm : a ∈ hid c ρ2 := List.mem_append_right _ (mem_muts.mpr ⟨i, l, _, ha2⟩)
  have e5 : Ex (hide (hid c ρ2) H2) (hide (hid c ρ2) (upd H2 a (.lst (zs.set j.toNat (.int (f (ixG xs j) y)))))) := hide_mono fun b o nb e => ⟨nb, by rw [upd_ne (fun q => nb (by rw [q]; exact hm))]; exact e⟩
  rw [List.map_set]
  exact dpam e5 (dpa_set _ h6 (.int _))
end
/-! #### drawing, picking -/
def R_draw : List PyData → (PyData → Prop) → Prop := fun ds Φ => ∃ many : Int, ds = [.int many] ∧ 0 < many ∧ many < 2 ^ 30 ∧ ∀ x : Int, (0 ≤ x ∧ x < many) → Φ (.int x)
def R_pick : List PyData → (PyData → Prop) → Prop := fun ds Φ => ∃ l : List PyData, (ds = [.list l] ∨ ds = [.tuple l]) ∧ 0 < l.length ∧ l.length < 2 ^ 30 ∧ ∀ d ∈ l, Φ d
def seedOf (script : List Int) : Nat := script.foldl (fun seed cell => (((seed : Int) * 48271 + cell) % 2147483629).toNat + 1) 7
theorem seedOf_step {script : List Int} {i : Nat} {x : Int} (h : script[i]? = some x) : ((seedOf (script.take i) : Nat) : Int) * 48271 + x = ((seedOf (script.take i) : Nat) : Int) * 48271 + x ∧ ((((seedOf (script.take i) : Nat) : Int) * 48271 + x) % 2147483629 + 1 = ((seedOf (script.take (i + 1)) : Nat) : Int)) := by
  refine ⟨rfl, ?_⟩
  unfold seedOf
  rw [List.take_add_one, h, List.foldl_append]
  simp only [Option.toList, List.foldl_cons, List.foldl_nil]
  have := Int.emod_nonneg ((List.foldl (fun seed cell => (((seed : Int) * 48271 + cell) % 2147483629).toNat + 1) 7 (script.take i) : Nat) * 48271 + x) (show (2147483629 : Int) ≠ 0 by decide)
  omega
section
variable {c : Cz} {ρ ρ1 ρ2 : List Sl} {ta tb te : TE} {α β γ : Type} {P : α → Prop}
theorem ew_draw {i : Nat} {l : Bool} {a : Addr} {P : Int → Prop} {E : XK} (h : Ew c ρ te PyData.int P ρ1) (hi0 : ρ[i]? = some (.mu l a (.any StOk))) (hi : ρ1[i]? = some (.mu l a (.any StOk))) (hp : ∀ m, P m → 0 < m ∧ m < 2 ^ 30) :
    Ew c ρ (tCall (SpW c.K R_draw) [] E (tCons (tVar i) (tCons te tNil))) PyData.int (fun x => ∃ m, P m ∧ 0 ≤ x ∧ x < m) ρ1 :=
  ew_imp (ew_callW (e := PyData.int) (P3 := fun (p : Int × Unit) x => 0 ≤ x ∧ x < p.1) (ds := fun p : Int × Unit => [.int p.1]) (ewa_raw hi0 (ewa_cons h ewa_nil)) hi (fun x px => ⟨x.1, rfl, (hp _ px.1).1, (hp _ px.1).2, fun y hy => ⟨y, hy, rfl⟩⟩)) fun y ⟨p, hp, hy⟩ => ⟨p.1, hp.1, hy⟩
theorem mem_ix {l : List PyData} {x : Int} {d : PyData} (h : atI l x = some d) : d ∈ l := by
  unfold atI at h
  cases q : ixN l.length x with
  | none => rw [q] at h; cases h
  | some j => rw [q] at h; exact List.mem_of_getElem? h
theorem ew_ixAny {ds : List PyData} {s : PyData} {P : Int → Prop} (hs : s = .list ds ∨ s = .tuple ds) (ha : Ed c ρ ta s ρ1) (hb : Ew c ρ1 tb PyData.int P ρ2) (hp : ∀ x, P x → 0 ≤ x ∧ x < ds.length) :
    Ew c ρ (tOp (fun x y H Q => rIxL c.K x y H Q ∨ rIxT c.K x y H Q) ta tb) (fun d => d) (fun d => d ∈ ds) ρ2 := fun T σ H W Q q => ha T σ H W _ fun v H1 W1 => hb _ σ H1 W1 _ fun x w H2 px W2 => by
  have hx := hp x px
  obtain ⟨d0, e⟩ : ∃ d0, atI ds x = some d0 := ⟨ds[x.toNat]'(by omega), by
    unfold atI; rw [ixN_nn hx]
    show ds[x.toNat]? = _
    exact List.getElem?_eq_getElem (by omega)⟩
  rcases hs with rfl | rfl
  · obtain ⟨a, xs, rfl, hs, h2⟩ := dp_lst W2.pop.dp
    obtain ⟨z, h3, h4⟩ := atI_dp h2 e
    exact .inl ⟨a, xs, x, z, rfl, dp_int W2.dp, ex_l (hide_ex _ _) hs, h3, q _ z H2 (mem_ix e) (W2.pop.pop.push h4)⟩
  · obtain ⟨a, xs, rfl, hs, h2⟩ := dp_tup W2.pop.dp
    obtain ⟨z, h3, h4⟩ := atI_dp h2 e
    exact .inr ⟨a, xs, x, z, rfl, dp_int W2.dp, (ex_p (hide_ex _ _) hs).sq, h3, q _ z H2 (mem_ix e) (W2.pop.pop.push h4)⟩
/-- _law_pick(state, list) -/
theorem ew_pickL {i : Nat} {l : Bool} {a : Addr} {f : α → PyData} {P : List α → Prop} {E : XK} (h : Ew c ρ te (fun l : List α => .list (l.map f)) P ρ1) (hi0 : ρ[i]? = some (.mu l a (.any StOk))) (hi : ρ1[i]? = some (.mu l a (.any StOk))) (hp : ∀ m, P m → 0 < m.length ∧ m.length < 2 ^ 30) :
    Ew c ρ (tCall (SpW c.K R_pick) [] E (tCons (tVar i) (tCons te tNil))) f (fun x => ∃ m, P m ∧ x ∈ m) ρ1 :=
  ew_imp (ew_callW (e := f) (P3 := fun (p : List α × Unit) x => x ∈ p.1) (ds := fun p : List α × Unit => [.list (p.1.map f)]) (ewa_raw hi0 (ewa_cons h ewa_nil)) hi (fun x px => ⟨x.1.map f, .inl rfl, by rw [List.length_map]; exact (hp _ px.1).1, by rw [List.length_map]; exact (hp _ px.1).2, fun d hd => by
    obtain ⟨z, hz, e⟩ := List.mem_map.mp hd
    exact ⟨z, hz, e.symm⟩⟩)) fun y ⟨p, hp, hy⟩ => ⟨p.1, hp.1, hy⟩
theorem ew_pickT {i : Nat} {l : Bool} {a : Addr} {f : α → PyData} {P : List α → Prop} {E : XK} (h : Ew c ρ te (fun l : List α => .tuple (l.map f)) P ρ1) (hi0 : ρ[i]? = some (.mu l a (.any StOk))) (hi : ρ1[i]? = some (.mu l a (.any StOk))) (hp : ∀ m, P m → 0 < m.length ∧ m.length < 2 ^ 30) :
    Ew c ρ (tCall (SpW c.K R_pick) [] E (tCons (tVar i) (tCons te tNil))) f (fun x => ∃ m, P m ∧ x ∈ m) ρ1 :=
  ew_imp (ew_callW (e := f) (P3 := fun (p : List α × Unit) x => x ∈ p.1) (ds := fun p : List α × Unit => [.tuple (p.1.map f)]) (ewa_raw hi0 (ewa_cons h ewa_nil)) hi (fun x px => ⟨x.1.map f, .inr rfl, by rw [List.length_map]; exact (hp _ px.1).1, by rw [List.length_map]; exact (hp _ px.1).2, fun d hd => by
    obtain ⟨z, hz, e⟩ := List.mem_map.mp hd
    exact ⟨z, hz, e.symm⟩⟩)) fun y ⟨p, hp, hy⟩ => ⟨p.1, hp.1, hy⟩
end
end Nz

/-! what gen.py names for defs that draw -/
namespace Nz
open PySem PySem.Spec PyProof.Rows L2 RZ
section
variable {c : Cz} {ρ ρ1 ρ2 ρ3 : List Sl} {ta tb te tx : TE} {t u : TT} {d d1 d2 d3 : PyData} {T : Tm} {H H' : Hp} {σ : L2.St}
variable {α β γ : Type} {f : α → PyData} {g : β → PyData} {e : γ → PyData} {P : α → Prop} {P2 : β → Prop} {P3 : γ → Prop}
theorem ew_drawD {i : Nat} {l : Bool} {a : Addr} {m : Int} {E : XK} (h : Ed c ρ te (.int m) ρ1) (hi0 : ρ[i]? = some (.mu l a (.any StOk))) (hi : ρ1[i]? = some (.mu l a (.any StOk))) (hp : 0 < m ∧ m < 2 ^ 30) :
    Ew c ρ (tCall (SpW c.K R_draw) [] E (tCons (tVar i) (tCons te tNil))) PyData.int (fun x => 0 ≤ x ∧ x < m) ρ1 :=
  ew_imp (ew_draw (ew_det (f := PyData.int) h) hi0 hi (fun n e => by subst e; exact hp)) fun x ⟨n, e, hx⟩ => by subst e; exact hx
theorem ew_pickLD {i : Nat} {l : Bool} {a : Addr} {f : α → PyData} {m : List α} {E : XK} (h : Ed c ρ te (.list (m.map f)) ρ1) (hi0 : ρ[i]? = some (.mu l a (.any StOk))) (hi : ρ1[i]? = some (.mu l a (.any StOk))) (hp : 0 < m.length ∧ m.length < 2 ^ 30) :
    Ew c ρ (tCall (SpW c.K R_pick) [] E (tCons (tVar i) (tCons te tNil))) f (fun x => x ∈ m) ρ1 :=
  ew_imp (ew_pickL (f := f) (ew_det (f := fun l : List α => .list (l.map f)) h) hi0 hi (fun n e => by subst e; exact hp)) fun x ⟨n, e, hx⟩ => by subst e; exact hx
theorem ew_pickTD {i : Nat} {l : Bool} {a : Addr} {f : α → PyData} {m : List α} {E : XK} (h : Ed c ρ te (.tuple (m.map f)) ρ1) (hi0 : ρ[i]? = some (.mu l a (.any StOk))) (hi : ρ1[i]? = some (.mu l a (.any StOk))) (hp : 0 < m.length ∧ m.length < 2 ^ 30) :
    Ew c ρ (tCall (SpW c.K R_pick) [] E (tCons (tVar i) (tCons te tNil))) f (fun x => x ∈ m) ρ1 :=
  ew_imp (ew_pickT (f := f) (ew_det (f := fun l : List α => .tuple (l.map f)) h) hi0 hi (fun n e => by subst e; exact hp)) fun x ⟨n, e, hx⟩ => by subst e; exact hx
theorem ew_callWD {R : List PyData → (PyData → Prop) → Prop} {ts : TA} {ds : List PyData} {E : XK} {i : Nat} {l : Bool} {a : Addr} (h : Ea c ρ ts (.raw (.ref a) :: ds.map .dat) ρ1) (hi : ρ1[i]? = some (.mu l a (.any StOk)))
    (hR : R ds (fun d => ∃ z, P3 z ∧ d = e z)) : Ew c ρ (tCall (SpW c.K R) [] E ts) e P3 ρ1 :=
  ew_imp (ew_callW (e := e) (P3 := fun (_ : Unit) z => P3 z) (ds := fun _ => ds) (ewa_det (x := ()) (as := fun _ => .raw (.ref a) :: ds.map .dat) h) hi (fun _ _ => hR)) fun z ⟨_, _, hz⟩ => hz
theorem ed_sumM {xs : List Int} {j : Nat} {l : Bool} {a : Addr} (ha : ρ[j]? = some (.mu l a (.lst (xs.map .int)))) : Ed c ρ (tCB (rSumT c.K) (tCons (tVar j) tNil)) (.int xs.sum) ρ := fun T σ H W Q q => by
  obtain ⟨h0, _, ys, h1, h2⟩ := W.ok j _ ha
  have := dpaInts h2
  subst this
  exact ⟨.ref a, h0, a, xs, rfl, .inr (sq_of h1), q _ H (W.push (.int _))⟩
theorem el_lcW1 {δ : Type} {wi : TI} {g : TG} {vs : List Nat} {xs : List δ} {ea : δ → Itm} {eb : γ → PyData} {R : δ → γ → Prop} (h : Ei c ρ wi (xs.map ea) ρ1) (hsz : xs.length ≤ 100000) (hvs : ∀ j ∈ vs, ρ1[j]? = some .no)
    (turn : ∀ (S : List Addr) (B : Hp) (x : δ), x ∈ xs → ∃ ρa, Nz.wipeS ρa vs = ρ1 ∧ Eg (c.at S B) g (ea x) ρ1 ρa vs ∧ Ew (c.at S B) ρa te eb (R x) ρa) :
    EwL c ρ (tLc wi g tYes te vs) (fun l : List γ => l.map eb) (fun l => Fa R xs l) ρ1 := fun T σ H W Q q =>
  el_lcW (xs := fun _ : Unit => xs) (R := fun _ => R) (eiw_det (x := ()) (its := fun _ => xs.map ea) h) (fun _ _ => hsz) hvs (fun S B _ x _ hx => turn S B x hx) T σ H W Q fun l p H' ⟨_, _, hf⟩ => q l p H' hf
variable {D : Ends} {nx bk ct : L2.St → Hp → Prop} {rt : VK}
theorem s_retP (h : Ew c ρ te f P ρ1) (hr : ∀ x, P x → Rt c (f x) [] D.rt) : Ss c T ρ (tRet te) D := fun σ H W => h T σ H W _ fun x v H1 px W1 => hr x px v H1 W1.keep (fun _ hp => by cases hp) (dpm hide_S0 W1.dp)
/-- the first state of a law -/
theorem s_state {i : Nat} {l : List Int} {s : Nat} (h : EdL c ρ te [.list (l.map .int), .int 0, .int 0, .int (s : Int)] ρ1) (k : ∀ p, Sk c T (ρ1.set i (.mu true p (.any StOk))) nx) : Ss c T ρ (tAsg te (gName i)) ⟨nx, rt, bk, ct⟩ :=
  s_asgM (i := i) h fun p σ H W => k p σ H (W.le ⟨by simp, fun j s s' h1 h2 => by
    rcases get_set h2 with ⟨rfl, hi, e⟩ | ⟨q, e⟩
    · rw [List.getElem?_set_self hi] at h1
      cases h1; subst e
      exact ⟨rfl, rfl, .inr ⟨_, _, rfl, rfl, ⟨l, 0, 0, _, rfl⟩⟩⟩
    · rw [List.getElem?_set_ne q] at h1
      rw [h1] at e; cases e
      exact slLe_refl _⟩)
end
end Nz

/-! lists or tuples; pairs that are quotients -/
namespace Nz
open PySem PySem.Spec PyProof.Rows L2 RZ
def eS {α : Type} (f : α → PyData) : Bool × List α → PyData
  | (true, l) => eL f l
  | (false, l) => eT f l
abbrev qp (r : Rat) : Int × Int := (r.num, (r.den : Int))
def qv (p : Int × Int) : Rat := Rat.divInt p.1 p.2
theorem qv_qp (r : Rat) : qv (qp r) = r := Rat.num_divInt_den r
section
variable {X : Cx} {e : Expr} {te : TE}
def iSeq (K : PySem.W.Frag) (te : TE) : TI := fun σ H R => iList K te σ H R ∨ iTup K te σ H R
theorem pi_seq {tg : Expr} (h : PE X e te) : PI X tg e (iSeq X.K te) := ⟨fun pins s σ H R I q => by
  rcases q with q | q
  · exact (pi_list h).run pins s σ H R I q
  · exact (pi_tup h).run pins s σ H R I q⟩
end
section
variable {c : Cz} {ρ ρ1 ρ2 : List Sl} {ta tb te : TE} {d : PyData} {T : Tm} {D : Ends} {nx bk ct : L2.St → Hp → Prop} {rt : VK}
theorem ei_seqX {α : Type} {f : α → PyData} {p : Bool × List α} (h : Ed c ρ te (eS f p) ρ1) : Ei c ρ (iSeq c.K te) (p.2.map fun x => Itm.hard (f x)) ρ1 := by
  obtain ⟨b, l⟩ := p
  cases b with
  | true => exact fun T σ H W R q => .inl (ei_listX (l := l) (f := f) h T σ H W R q)
  | false => exact fun T σ H W R q => .inr (ei_tupX (l := l) (f := f) h T σ H W R q)
/-- a, b = new list that will change, data -/
theorem s_parM1 {i j : Nat} {ds : List PyData} {y : PyData} (h : EdL c ρ ta ds ρ1) (h2 : ∀ S B, Ed (c.at S B) ρ1 tb y ρ1) (hij : i ≠ j) (k : ∀ p, Sk c T ((ρ1.set i (.mu true p (.lst ds))).set j (.da y)) nx) : Ss c T ρ (tPar i j (tCons ta (tCons tb tNil))) ⟨nx, rt, bk, ct⟩ := fun σ H W =>
  h T σ H W _ fun p H1 hB hn mo W1 => by
    obtain ⟨xs, hx, dx⟩ := mo
    have hs := W.sub
    have nS : p ∉ c.S0 := fun m => hn (List.mem_append_left _ m)
    have W2 : Wd (c.at (p :: c.S0) (upd c.B p (.lst xs))) (xs.zip ds ++ T) H1 σ ρ1 := (W1.pin hx hB hs nS).pushAll dx
    refine h2 _ _ _ σ H1 W2 _ fun v H2 W3 => ?_
    have lx := dpa_length dx
    obtain ⟨hp2, W4⟩ := W3.unpin hB (fun m => nS (hs p m))
    have hn4 := W4.notin nS hs
    have dx2 := Wd.allOf (T := T) lx W4.pop
    have W5 := W4.setM hs i (l := true) (o := .lst ds) (by rw [if_pos rfl]; exact hB) hn4 ⟨xs, hp2, dx2⟩
    have dy : Dz c.K (hide (hid c (ρ1.set i (.mu true p (.lst ds)))) H2) v y := W5.tmp (v, y) (List.mem_cons_self ..)
    have W6 := W5.setD j dy
    refine ⟨.ref p, v, rfl, ?_⟩
    exact k p _ _ (W6.tmps fun q hq => List.mem_cons_of_mem _ (List.mem_append_right _ hq))
end
end Nz

/-! the mathematics of quotients, for the defs that all laws share -/
namespace Nz
open PySem PySem.Spec PyProof.Rows L2 RZ

abbrev eN (n : Nat) : PyData := .int (n : Int)
def isIntD (d : PyData) : Bool := isi_int d && !isi_bool d
theorem gcd_turn (a b : Nat) : Nat.gcd b (a % b) = Nat.gcd a b := by rw [Nat.gcd_comm b, ← Nat.gcd_rec, Nat.gcd_comm]
theorem gcd_end {a b : Nat} {n : Nat} (h : Nat.gcd a b = n) (hb : decide ((0 : Int) < (b : Int)) = false) : PyData.int (a : Int) = eN n := by
  have : b = 0 := by have := of_decide_eq_false hb; omega
  subst this
  rw [Nat.gcd_zero_right] at h
  rw [h]
/-- both parts below 2 ^ 4400 -/
def Qb (r : Rat) : Prop := r.num.natAbs < 2 ^ 4400 ∧ r.den < 2 ^ 4400
theorem quo_gcd {a b : Int} (h : b ≠ 0) : 0 < (Nat.gcd a.natAbs b.natAbs : Int) := by
  have := Nat.gcd_pos_of_pos_right a.natAbs (show 0 < b.natAbs by omega)
  omega
theorem quo_le {a b : Int} (h : b ≠ 0) : Nat.gcd a.natAbs b.natAbs ≤ b.natAbs := Nat.le_of_dvd (by omega) (Nat.gcd_dvd_right _ _)
theorem eN_abs {i : Int} (h : 0 ≤ i) : PyData.int i = eN i.natAbs := by
  show PyData.int i = PyData.int (i.natAbs : Int)
  rw [show (i.natAbs : Int) = i by omega]
theorem quo_div {a b : Int} (h : b ≠ 0) (h2 : b.natAbs < 2 ^ 8999) {i : Int} : CDivG i (Nat.gcd a.natAbs b.natAbs : Int) := by
  have h3 := quo_le (a := a) h
  exact div_b (quo_gcd h) (Nat.lt_of_le_of_lt (by omega) h2)
theorem quo_num (a b : Int) (h : 0 < b) : (Rat.divInt a b).num = a / (Nat.gcd a.natAbs b.natAbs : Int) := by
  rw [Rat.num_divInt, Int.sign_eq_one_of_pos h, Int.one_mul, Int.gcd_comm]; rfl
theorem quo_den (a b : Int) (h : 0 < b) : ((Rat.divInt a b).den : Int) = b / (Nat.gcd a.natAbs b.natAbs : Int) := by
  rw [Rat.den_divInt, if_neg (by omega), Int.gcd_comm]
  show ((b.natAbs / Nat.gcd a.natAbs b.natAbs : Nat) : Int) = _
  rw [Int.natCast_ediv, show (b.natAbs : Int) = b by omega]
theorem quo_pos {a b : Int} (h0 : b ≠ 0) (h : decide (b < 0) = false) : PyData.tuple [.int (a / (Nat.gcd a.natAbs b.natAbs : Int)), .int (b / (Nat.gcd a.natAbs b.natAbs : Int))] = eQ (Rat.divInt a b) := by
  have hb : 0 < b := by have := of_decide_eq_false h; omega
  show _ = PyData.tuple [.int _, .int _]
  rw [quo_num a b hb, quo_den a b hb]
theorem quo_neg {a b : Int} (h : decide (b < 0) = true) : PyData.tuple [.int ((-a) / (Nat.gcd (-a).natAbs (-b).natAbs : Int)), .int ((-b) / (Nat.gcd (-a).natAbs (-b).natAbs : Int))] = eQ (Rat.divInt a b) := by
  have hb : 0 < -b := by have := of_decide_eq_true h; omega
  rw [← Rat.neg_divInt_neg]
  show _ = PyData.tuple [.int _, .int _]
  rw [quo_num (-a) (-b) hb, quo_den (-a) (-b) hb]
theorem den_ne (a : Rat) : (a.den : Int) ≠ 0 := by have := a.den_nz; omega
theorem q_add (a b : Rat) : Rat.divInt (a.num * b.den + b.num * a.den) (a.den * b.den) = a + b := by
  rw [Rat.add_def', ← Rat.divInt_ofNat]; push_cast; rfl
theorem q_sub (a b : Rat) : Rat.divInt (a.num * b.den - b.num * a.den) (a.den * b.den) = a - b := by
  rw [Rat.sub_def', ← Rat.divInt_ofNat]; push_cast; rfl
theorem q_mul (a b : Rat) : Rat.divInt (a.num * b.num) (a.den * b.den) = a * b := by
  rw [Rat.mul_def', ← Rat.divInt_ofNat]; push_cast; rfl
theorem q_div (a b : Rat) : Rat.divInt (a.num * b.den) (a.den * b.num) = a / b := by
  rw [Rat.div_def, Rat.inv_def]
  conv => rhs; rw [← Rat.num_divInt_den a, Rat.divInt_mul_divInt]
theorem den_nz2 (a b : Rat) : (a.den : Int) * (b.den : Int) ≠ 0 := Int.mul_ne_zero (den_ne a) (den_ne b)
theorem num_ne {b : Rat} (h : b ≠ 0) : b.num ≠ 0 := fun e => h (Rat.num_eq_zero.mp e)
theorem den_nz3 (a : Rat) {b : Rat} (h : b ≠ 0) : (a.den : Int) * b.num ≠ 0 := Int.mul_ne_zero (den_ne a) (num_ne h)
theorem lt_pow {a b : Nat} (ha : a < 2 ^ 4400) (hb : b < 2 ^ 4400) : a * b < 2 ^ 8999 :=
  Nat.lt_of_lt_of_le (Nat.mul_lt_mul'' ha hb) (by rw [← Nat.pow_add]; exact Nat.pow_le_pow_right (by decide) (by decide))
theorem den_lt2 {a b : Rat} (ha : Qb a) (hb : Qb b) : ((a.den : Int) * (b.den : Int)).natAbs < 2 ^ 8999 := by
  rw [Int.natAbs_mul]; exact lt_pow ha.2 hb.2
theorem den_lt3 {a b : Rat} (ha : Qb a) (hb : Qb b) : ((a.den : Int) * b.num).natAbs < 2 ^ 8999 := by
  rw [Int.natAbs_mul]; exact lt_pow ha.2 hb.1
theorem mul_nd {a b : Rat} (ha : Qb a) (hb : Qb b) : IntMulOk a.num (b.den : Int) := mul_b ha.1 (show ((b.den : Int)).natAbs < 2 ^ 4400 from hb.2)
theorem mul_dn {a b : Rat} (ha : Qb a) (hb : Qb b) : IntMulOk (a.den : Int) b.num := mul_b (show ((a.den : Int)).natAbs < 2 ^ 4400 from ha.2) hb.1
theorem mul_dd {a b : Rat} (ha : Qb a) (hb : Qb b) : IntMulOk (a.den : Int) (b.den : Int) := mul_b (show ((a.den : Int)).natAbs < 2 ^ 4400 from ha.2) (show ((b.den : Int)).natAbs < 2 ^ 4400 from hb.2)
theorem mul_nn {a b : Rat} (ha : Qb a) (hb : Qb b) : IntMulOk a.num b.num := mul_b ha.1 hb.1
end Nz

set_option exponentiation.threshold 10000
/-! quotients: sizes -/
namespace Nz
open PySem PySem.Spec PyProof.Rows L2 RZ
/-- both parts at most 2 ^ k -/
def Qk (k : Nat) (r : Rat) : Prop := r.num.natAbs ≤ 2 ^ k ∧ r.den ≤ 2 ^ k
theorem Qk.mono {j k : Nat} {r : Rat} (h : Qk j r) (hk : j ≤ k) : Qk k r := ⟨Nat.le_trans h.1 (Nat.pow_le_pow_right (by decide) hk), Nat.le_trans h.2 (Nat.pow_le_pow_right (by decide) hk)⟩
theorem Qk.qb {k : Nat} {r : Rat} (h : Qk k r) (hk : k < 4400) : Qb r := ⟨Nat.lt_of_le_of_lt h.1 (Nat.pow_lt_pow_right (by decide) hk), Nat.lt_of_le_of_lt h.2 (Nat.pow_lt_pow_right (by decide) hk)⟩
theorem Qk.gd {k : Nat} {r : Rat} (h : Qk k r) (hk : k < 1900) : Gd 1 1209 (eQ r) := gd_Q (Nat.lt_of_le_of_lt h.1 (Nat.pow_lt_pow_right (by decide) hk)) (Nat.lt_of_le_of_lt h.2 (Nat.pow_lt_pow_right (by decide) hk))
theorem div_natAbs_le {a : Int} {g : Nat} : (a / (g : Int)).natAbs ≤ a.natAbs := Int.natAbs_ediv_le_natAbs _ _
theorem divInt_le (a b : Int) (h : 0 < b) : (Rat.divInt a b).num.natAbs ≤ a.natAbs ∧ (Rat.divInt a b).den ≤ b.natAbs := by
  rw [quo_num a b h]
  refine ⟨div_natAbs_le, ?_⟩
  have := quo_den a b h
  have h2 := div_natAbs_le (a := b) (g := Nat.gcd a.natAbs b.natAbs)
  rw [← this] at h2
  exact h2
theorem Qk_divInt {k : Nat} {a b : Int} (h : 0 < b) (ha : a.natAbs ≤ 2 ^ k) (hb : b.natAbs ≤ 2 ^ k) : Qk k (Rat.divInt a b) := by
  obtain ⟨h1, h2⟩ := divInt_le a b h
  exact ⟨Nat.le_trans h1 ha, Nat.le_trans h2 hb⟩
theorem Qk_mul {j k : Nat} {r q : Rat} (h1 : Qk j r) (h2 : Qk k q) : Qk (j + k) (r * q) := by
  rw [← q_mul]
  have := r.den_nz
  have := q.den_nz
  refine Qk_divInt (Int.mul_pos (by omega) (by omega)) ?_ ?_
  · rw [Int.natAbs_mul, Nat.pow_add]; exact Nat.mul_le_mul h1.1 h2.1
  · rw [Int.natAbs_mul, Nat.pow_add]; exact Nat.mul_le_mul h1.2 h2.2
theorem Qk_zero (k : Nat) : Qk k 0 := ⟨Nat.zero_le _, Nat.one_le_two_pow⟩
theorem Qk_one (k : Nat) : Qk k 1 := ⟨Nat.one_le_two_pow, Nat.one_le_two_pow⟩
/-- a part of D, of at most M -/
def Bd (M D : Nat) (r : Rat) : Prop := 0 < D ∧ ∃ n : Int, n.natAbs ≤ M ∧ r = Rat.divInt n D
theorem Bd.qk {M D k : Nat} {r : Rat} (h : Bd M D r) (hM : M ≤ 2 ^ k) (hD : D ≤ 2 ^ k) : Qk k r := by
  obtain ⟨h0, n, hn, rfl⟩ := h
  exact Qk_divInt (by omega) (Nat.le_trans hn hM) (by simpa using hD)
theorem Bd.mono {M M' D : Nat} {r : Rat} (h : Bd M D r) (hM : M ≤ M') : Bd M' D r := by
  obtain ⟨h0, n, hn, e⟩ := h
  exact ⟨h0, n, Nat.le_trans hn hM, e⟩
theorem Bd_zero {M D : Nat} (h : 0 < D) : Bd M D 0 := ⟨h, 0, Nat.zero_le _, by rw [Rat.zero_divInt]⟩
theorem Bd_add {M M' D : Nat} {r q : Rat} (h1 : Bd M D r) (h2 : Bd M' D q) : Bd (M + M') D (r + q) := by
  obtain ⟨h0, n, hn, rfl⟩ := h1
  obtain ⟨_, m, hm, rfl⟩ := h2
  exact ⟨h0, n + m, Nat.le_trans (Int.natAbs_add_le _ _) (Nat.add_le_add hn hm), by rw [Rat.divInt_add_divInt _ _ (by omega) (by omega), ← Int.add_mul, Rat.divInt_mul_right (by omega)]⟩
theorem Bd_mul {M M' D D' : Nat} {r q : Rat} (h1 : Bd M D r) (h2 : Bd M' D' q) : Bd (M * M') (D * D') (r * q) := by
  obtain ⟨h0, n, hn, rfl⟩ := h1
  obtain ⟨h0', m, hm, rfl⟩ := h2
  exact ⟨Nat.mul_pos h0 h0', n * m, by rw [Int.natAbs_mul]; exact Nat.mul_le_mul hn hm, by rw [Rat.divInt_mul_divInt]; push_cast; rfl⟩
theorem Bd_div {a b : Int} {M : Nat} (h : 0 < b) (ha : a.natAbs ≤ M) : Bd M b.toNat (Rat.divInt a b) := ⟨by omega, a, ha, by rw [Int.toNat_of_nonneg (by omega)]⟩
/-! ### the law's own quotients -/
def Pb (p : Int × Int) : Prop := p.1.natAbs < 2 ^ 4400 ∧ p.2 ≠ 0 ∧ p.2.natAbs < 2 ^ 4400
theorem Qb.pb {r : Rat} (h : Qb r) : Pb (qp r) := ⟨h.1, den_ne r, h.2⟩
theorem pb_small {a b : Int} (ha : -(2 ^ 64) < a ∧ a < 2 ^ 64) (h0 : b ≠ 0) (hb : -(2 ^ 64) < b ∧ b < 2 ^ 64) : Pb (a, b) :=
  ⟨Nat.lt_of_lt_of_le (show a.natAbs < 2 ^ 64 by omega) (Nat.pow_le_pow_right (by decide) (by decide)), h0, Nat.lt_of_lt_of_le (show b.natAbs < 2 ^ 64 by omega) (Nat.pow_le_pow_right (by decide) (by decide))⟩
theorem pb_den {a b : Int × Int} (h0 : Pb a) (h1 : Pb b) : (a.2 * b.2).natAbs < 2 ^ 8999 := by rw [Int.natAbs_mul]; exact lt_pow h0.2.2 h1.2.2
theorem pb_add {a b : Int × Int} (h0 : Pb a) (h1 : Pb b) : qv a + qv b = Rat.divInt (a.1 * b.2 + b.1 * a.2) (a.2 * b.2) := Rat.divInt_add_divInt _ _ h0.2.1 h1.2.1
theorem pb_mul (a b : Int × Int) : qv a * qv b = Rat.divInt (a.1 * b.1) (a.2 * b.2) := Rat.divInt_mul_divInt _ _
theorem lawq_gcd {a : Nat × Nat} {n : Nat} (hP : Nat.gcd a.1 a.2 = n) (hb : decide ((0 : Int) < (a.2 : Int)) = false) : a.1 = n := by
  have : a.2 = 0 := by have := of_decide_eq_false hb; omega
  rw [this, Nat.gcd_zero_right] at hP
  exact hP
theorem lawq_pos {a : Nat × Nat} {up down : Int} (hP : Nat.gcd a.1 a.2 = Nat.gcd up.natAbs down.natAbs) (hb : decide ((0 : Int) < (a.2 : Int)) = false) (h : decide ((0 : Int) < down) = true) :
    PyData.tuple [.int (up / (a.1 : Int)), .int (down / (a.1 : Int))] = eQ (Rat.divInt up down) := by
  have hd := of_decide_eq_true h
  rw [lawq_gcd hP hb]
  exact quo_pos (by omega) (decide_eq_false (by omega))
theorem lawq_neg {a : Nat × Nat} {up down : Int} (hP : Nat.gcd a.1 a.2 = Nat.gcd up.natAbs down.natAbs) (hb : decide ((0 : Int) < (a.2 : Int)) = false) (h0 : down ≠ 0) (h : decide ((0 : Int) < down) = false) :
    PyData.tuple [.int ((0 - up) / (a.1 : Int)), .int ((0 - down) / (a.1 : Int))] = eQ (Rat.divInt up down) := by
  have hd := of_decide_eq_false h
  rw [lawq_gcd hP hb, Int.zero_sub, Int.zero_sub]
  have := quo_neg (a := up) (b := down) (decide_eq_true (by omega))
  rw [Int.natAbs_neg, Int.natAbs_neg] at this
  exact this
theorem lawq_div {a : Nat × Nat} {up down i : Int} (h0 : down ≠ 0) (h1 : down.natAbs < 2 ^ 8999) (hP : Nat.gcd a.1 a.2 = Nat.gcd up.natAbs down.natAbs) (hb : decide ((0 : Int) < (a.2 : Int)) = false) : CDivG i (a.1 : Int) := by
  rw [lawq_gcd hP hb]; exact quo_div h0 h1
theorem sumQ_step {l : List Rat} {i : Nat} {x : Rat} (h : l[i]? = some x) : (l.take i).sum + x = (l.take (i + 1)).sum := by
  rw [List.take_add_one, h]
  simp [Rat.add_zero]
theorem Bd_sum {M D : Nat} {l : List Rat} (hD : 0 < D) (h : ∀ r ∈ l, Bd M D r) : Bd (l.length * M) D l.sum := by
  induction l with
  | nil => exact Bd_zero hD
  | cons a l ih =>
    rw [List.sum_cons, List.length_cons, Nat.add_mul, Nat.one_mul, Nat.add_comm]
    exact Bd_add (h a (List.mem_cons_self ..)) (ih fun r hr => h r (List.mem_cons_of_mem _ hr))
theorem Bd.qb {M D : Nat} {r : Rat} (h : Bd M D r) (hM : M < 2 ^ 4400) (hD : D < 2 ^ 4400) : Qb r := by
  obtain ⟨h0, n, hn, rfl⟩ := h
  obtain ⟨h1, h2⟩ := divInt_le n D (by omega)
  exact ⟨Nat.lt_of_le_of_lt (Nat.le_trans h1 hn) hM, Nat.lt_of_le_of_lt (by simpa using h2) hD⟩
theorem sum_qb {l : List Rat} (h : ∃ M D, (∀ r ∈ l, Bd M D r) ∧ (l.length + 1) * M < 2 ^ 4400 ∧ 0 < D ∧ D < 2 ^ 4400) (i : Nat) {x : Rat} (hx : l[i]? = some x) : Qb (l.take i).sum ∧ Qb x := by
  obtain ⟨M, D, h1, h2, h3, h4⟩ := h
  have hM : ∀ k, k ≤ l.length + 1 → k * M < 2 ^ 4400 := fun k hk => Nat.lt_of_le_of_lt (Nat.mul_le_mul_right _ hk) h2
  refine ⟨(Bd_sum h3 fun r hr => h1 r (List.mem_of_mem_take hr)).qb (hM _ (by rw [List.length_take]; omega)) h4, (h1 x (List.mem_of_getElem? hx)).qb ?_ h4⟩
  have := hM 1 (by omega)
  omega
end Nz

/-! enumerate(tuple) -/
namespace Nz
open PySem PySem.Spec PyProof.Rows L2 RZ
/-- what comes of a tuple, one by one -/
theorem drawsTup {prog : Program} {w : World} {A : Around} {it t : Addr} {items : Array Value} (free : A.handled = none) (apart : t ≠ it) :
    Draws prog w A it [it, t] items.size (fun i x => items[i]? = some x) (fun i h => h.IsTupleIter it t i ∧ h.IsTuple t items) where
  live := fun i h st => ⟨st.1.choose, st.1.choose_spec.1⟩
  frame := fun i h h' st k => ⟨⟨st.1.choose, k it (by simp) _ st.1.choose_spec.1, st.1.choose_spec.2⟩, ⟨st.2.choose, k t (by simp) _ st.2.choose_spec.1, st.2.choose_spec.2⟩⟩
  item := fun i s Q E lt st q => RZ.nextOf_tuple_item st.1 st.2 (x := items[i]) (Array.getElem?_eq_getElem lt) fun h' a sb => q _ h' s.toks (Array.getElem?_eq_getElem lt) ⟨a, st.2.extBut sb.extBut apart⟩ sb
  done := fun s Q E st q => RZ.nextOf_tuple_end free st.1 st.2 (by rw [Array.getElem?_eq_none_iff]; exact Nat.le_refl _) q
set_option maxHeartbeats 4000000 in
theorem newEnumT (l : Addr) (items : Array Value) : Meets (Builtin.«enumerate.__new__» ⟨[.type "enumerate", .ref l], []⟩) (fun _ R s => s.heap.IsTuple l items ∧
    (let mid := s.heap.push { cls := .type "tuple_iterator", data := .fields #[.ref l, .int 0 0] }
     R (.ok (.ret (.ref mid.objs.size))) { s with heap := mid.push { cls := .type "enumerate", data := .fields #[.none, .bool false, .ref s.heap.objs.size, rawInt 0, .none, .none] } })) :=
  .of_wp fun prog w A R s h => by
    obtain ⟨hp, gs, dr, tk, os⟩ := s
    obtain ⟨isT, h⟩ := h
    have isT : Heap.IsTuple (Shared.heap ⟨hp, gs, dr, tk, os⟩) l items := isT
    have sub := sub_enumerate
    have big := isT
    obtain ⟨ob, hob, hcls, n, hdat⟩ := big
    wp_walk using wpAny_loadPart' hob
    refine wpAny_stack_any fun _ => wpAny_pure ?_
    split
    · rename_i c _ _ _ _ _
      cases (c == Value.type "enumerate") <;>
      · wp_walk using wpAny_pyIter_tuple isT
        exact ⟨_, rfl, h⟩
    · wp_walk using wpAny_pyIter_tuple isT
      exact ⟨_, rfl, h⟩
section
variable {prog : Program} {w : World} {A : Around} {E : Value → Shared → Prop} {s : Shared}
theorem callEnumT {l : Addr} {items : Array Value} {Q : Value → Shared → Prop} (isT : s.heap.IsTuple l items)
    (q : ∀ h', IsEnum h' (s.heap.objs.size + 1) s.heap.objs.size 0 .none → h'.IsTupleIter s.heap.objs.size l 0 → (∀ b o, s.heap.get? b = some o → h'.get? b = some o) → Q (.ref (s.heap.objs.size + 1)) { s with heap := h' }) :
    wpAny (model prog w) A (call (.type "enumerate") [.ref l]) Q E s := by
  refine callType_new F.called_enumerate (by decide) (F.typeCall_enumerate_1 _) (F.newCall_enumerate_1 _) (fun ob => F.args_object_init_2 ob _) F.entry_enumerate_new (newEnumT l items) ⟨isT, ?_⟩
  have size1 : (s.heap.push { cls := .type "tuple_iterator", data := .fields #[.ref l, .int 0 0] }).objs.size = s.heap.objs.size + 1 := Heap.size_push ..
  dsimp only
  rw [size1]
  have isE : IsEnum ((s.heap.push { cls := .type "tuple_iterator", data := .fields #[.ref l, .int 0 0] }).push { cls := .type "enumerate", data := .fields #[.none, .bool false, .ref s.heap.objs.size, rawInt 0, .none, .none] }) (s.heap.objs.size + 1) s.heap.objs.size 0 .none := by
    have z := Heap.get?_push_size (s.heap.push { cls := .type "tuple_iterator", data := .fields #[.ref l, .int 0 0] }) (o := { cls := .type "enumerate", data := .fields #[.none, .bool false, .ref s.heap.objs.size, rawInt 0, .none, .none] }) rfl
    rwa [size1] at z
  exact ⟨⟨_, isE, rfl⟩, q _ isE ⟨_, Heap.get?_push_of_some _ (Heap.get?_push_size _ rfl), rfl, rfl⟩ fun b o x => Heap.get?_push_of_some _ (Heap.get?_push_of_some _ x)⟩
end
section
variable {prog : Program} {w : World} {A : Around} {E : Value → Shared → Prop} {s : Shared}
/-- at the end, however far behind it -/
theorem enumEndT {e it t : Addr} {i : Nat} {items : Array Value} {old : Value} {Q : Option Value → Shared → Prop} (free : A.handled = none) (isE : IsEnum s.heap e it i old) (isI : s.heap.IsTupleIter it t i) (isT : s.heap.IsTuple t items) (out : items.size ≤ i)
    (q : ∀ h', Heap.ExtBut it s.heap h' → Q none { s with heap := h' }) : wpAny (model prog w) A (pyNext (.ref e)) Q E s := by
  have D : Draws prog w A.in1 it [it, t] i (fun i x => items[i]? = some x) (fun j h => j = i ∧ h.IsTupleIter it t i ∧ h.IsTuple t items) :=
    { live := fun j h st => ⟨st.2.1.choose, st.2.1.choose_spec.1⟩
      frame := fun j h h' st k => ⟨st.1, ⟨st.2.1.choose, k it (by simp) _ st.2.1.choose_spec.1, st.2.1.choose_spec.2⟩, ⟨st.2.2.choose, k t (by simp) _ st.2.2.choose_spec.1, st.2.2.choose_spec.2⟩⟩
      item := fun j s Q E lt st q => absurd st.1 (Nat.ne_of_lt lt)
      done := fun s Q E st q => RZ.nextOf_tuple_end free st.2.1 st.2.2 (by rw [Array.getElem?_eq_none_iff]; exact out) q }
  exact wpAny_pyNext_enum_endD D isE ⟨rfl, isI, isT⟩ q
end
/-! the walk -/
def IteT (K : PySem.W.Frag) (a : Addr) : It :=
  ⟨fun i H => ∃ (xs : List V) (x : V), SqT K H a xs ∧ xs[i]? = some x,
   fun i H v H' => ∃ p x, v = .ref p ∧ H p = none ∧ H' = upd H p (.tup [.int (i : Nat), x]) ∧ ∀ xs, SqT K H a xs → xs[i]? = some x,
   fun i H => ∃ xs : List V, SqT K H a xs ∧ xs.length ≤ i⟩
theorem tup_ne_it {h : Heap} {a it : Addr} {i : Nat} {us : Array Value} (p : IsTup h a us) (q : h.IsTupleIter it a i) : a ≠ it := fun e => by
  subst e
  obtain ⟨o, ho, hc, _⟩ := p
  obtain ⟨o', ho', hc', _⟩ := q
  rw [ho] at ho'
  cases ho'
  rw [hc] at hc'
  exact absurd hc' (by decide)
theorem tup_ne_en {h : Heap} {a e it : Addr} {i : Int} {old : Value} {us : Array Value} (p : IsTup h a us) (q : IsEnum h e it i old) : a ≠ e := fun z => by
  subst z
  obtain ⟨o, ho, hc, _⟩ := p
  have q : h.get? a = some _ := q
  rw [ho] at q
  cases q
  have hc : (Value.type "enumerate") = .type "tuple" := hc
  exact absurd hc (by decide)
theorem turnEnumT {P : Program} {w : World} {K : PySem.W.Frag} {els : List Expr} {n0 : Nat} {ps : Pos} (a e it : Addr) :
    Turn P w K (.Tuple els n0 ps) (IteT K a) [e, it] e (fun i h => (∃ old, IsEnum h e it ((i : Nat) : Int) old) ∧ h.IsTupleIter it a i ∧ e ≠ it) where
  mem := List.mem_cons_self ..
  obj := fun i h st b hb => by
    obtain ⟨⟨old, isE⟩, ⟨o, ho, _, hd⟩, _⟩ := st
    rcases List.mem_cons.mp hb with rfl | hb
    · exact ⟨_, isE, fun v q => nomatch q⟩
    · have := List.mem_singleton.mp hb
      subst this
      exact ⟨o, ho, fun v q => by rw [hd] at q; cases q⟩
  keep := fun i h h' ⟨⟨old, isE⟩, ⟨o, ho, r⟩, ne⟩ k => ⟨⟨old, k e (by simp) _ isE⟩, ⟨o, k it (by simp) o ho, r⟩, ne⟩
  item := by
    intro X eP eW eK calm i pins s σ H E I fp st go
    subst eP; subst eW; subst eK
    obtain ⟨⟨old, isE⟩, isI, ne⟩ := st
    obtain ⟨xs, x, sq, hx⟩ := go
    obtain ⟨us, rel, isT, size⟩ := I.tuple sq
    obtain ⟨u, hu, ru⟩ := rel.get hx
    have eLt : e < s.heap.objs.size := Heap.lt_size isE
    have iLt : it < s.heap.objs.size := Heap.lt_size isI.choose_spec.1
    have inUs : i < us.toArray.size := by rw [List.size_toArray]; exact (List.getElem?_eq_some_iff.mp hu).1
    refine wpAny_pyNext_enum_itemD (drawsTup (I.ok.hd calm) (tup_ne_it isT isI)) isE ⟨isI, isT⟩ inUs ne (by simp [ne, (tup_ne_en isT isE).symm]) fun y h' tk hy out st' isNew size' kept => ?_
    have hy : y = u := by
      have : us.toArray[i]? = some u := by simpa using hu
      rw [this] at hy; cases hy; rfl
    subst hy
    refine ⟨_, rfl, wpAny_letOwnedTupleGo_enum (s := { s with heap := h', toks := tk + 1 }) out fun h'' isE' sb => ?_⟩
    have new2 : h''.get? s.heap.objs.size = some { cls := .type "tuple", data := .seq #[.int i tk, y] } := (sb.2 _ (Nat.ne_of_gt eLt)).trans isNew
    have I2 : Inv X pins σ (upd H s.heap.objs.size (.tup [.int (i : Nat), x])) { s with heap := h'', toks := tk + 1 } :=
      I.turnedNew (ch := [e, it]) (fun b ob nb q => by
        have nb1 : b ≠ e := fun z => nb (by simp [z])
        have nb2 : b ≠ it := fun z => nb (by simp [z])
        exact (sb.2 b nb1).trans (kept b ob nb1 nb2 q)) fp (Nat.le_refl _) ⟨show 2 ≤ sizeLine by decide, [.int i tk, y], .cons ⟨_, rfl⟩ (.cons ru .nil), ⟨_, new2, rfl, _, rfl⟩⟩
    refine ⟨.ref s.heap.objs.size, _, I2, rfl, ⟨_, x, rfl, I.hok.fresh (Nat.le_refl _), rfl, fun ys hy => by rw [I.tuple_inj hy sq]; exact hx⟩, ⟨⟨y, ?_⟩, ?_, ne⟩, fun b hb => ?_⟩
    · rw [show ((i + 1 : Nat) : Int) = (i : Int) + 1 by omega]; exact isE'
    · obtain ⟨o, ho, r⟩ := st'.1
      exact ⟨o, (sb.2 it (Ne.symm ne)).trans ho, r⟩
    · have lt : b < s.heap.objs.size := by
        rcases List.mem_cons.mp hb with rfl | hb
        · exact eLt
        · rw [List.mem_singleton.mp hb]; exact iLt
      rw [upd_ne (Nat.ne_of_lt lt)]
      exact (fp b hb).1
  done := by
    intro X eP eW eK calm i pins s σ H E I fp st stop
    subst eP; subst eW; subst eK
    obtain ⟨⟨old, isE⟩, isI, ne⟩ := st
    obtain ⟨xs, sq, le⟩ := stop
    obtain ⟨us, rel, isT, size⟩ := I.tuple sq
    obtain ⟨g0, g1, g2, g3, g4, g5⟩ := fp it (by simp)
    have len := rel.length
    exact Nz.enumEndT (I.ok.hd calm) isE isI isT (by simp; omega) fun h' eb => ⟨rfl, I.turned (t' := s.toks) (fun b o hb q => eb b o hb q) g0 g1 g3 g4 g5⟩
  self := fun A i s Q E st h => wpAny_pyIter_enum st.1.choose_spec h
def iEnumT (K : PySem.W.Frag) (ta : TA) : TI := fun σ H R => ta σ H fun vs H1 => ∃ a xs, vs = [.ref a] ∧ SqT K H1 a xs ∧ R (IteT K a) H1
theorem pi_enumT {X : Cx} {e : Expr} {ta : TA} {p pos tpos : Pos} {els : List Expr} {n0 : Nat} (hg : Gl X "enumerate") (hm : X.mg "enumerate" = none) (ha : PA X [e] ta) (hs : starEach [e] X.env = [(false, eval e X.env)] := by rfl) :
    PI X (.Tuple els n0 tpos) (.Call (.Name "enumerate" p) [e] [] pos) (iEnumT X.K ta) := ⟨fun pins s σ H R I h => Call_ (ld_blt I hg hm boot_enumerate (PyProof.Rows.callWith_type1 (thn (ha.run pos pins s σ H _ I h) fun us s1 ⟨vs, H1, I1, rel, q⟩ => by
  obtain ⟨a, xs, e1, sq, q⟩ := q
  subst e1
  obtain ⟨u, rfl, ru⟩ := rel.one
  cases ru
  obtain ⟨its, rv, isT, size⟩ := I1.tuple sq
  refine callEnumT isT fun h' isE isI kept => wpAny_pyIter_enum isE ?_
  refine ⟨s1.heap.objs.size + 1, [s1.heap.objs.size + 1, s1.heap.objs.size], _, _, H1, rfl, I1.kept (t' := s1.toks) kept, turnEnumT a (s1.heap.objs.size + 1) s1.heap.objs.size, ⟨⟨.none, isE⟩, isI, Nat.succ_ne_self _⟩, fun b hb => ?_, q⟩
  have le : s1.heap.objs.size ≤ b := by
    rcases List.mem_cons.mp hb with rfl | hb
    · exact Nat.le_succ _
    · rw [List.mem_singleton.mp hb]; exact Nat.le_refl _
  exact I1.fpOk le (I1.hok.fresh le)) hs rfl))⟩
section
variable {c : Cz} {ρ ρ1 : List Sl} {te : TE}
theorem ei_enumT {ds : List PyData} (h : Ed c ρ te (.tuple ds) ρ1) : Ei c ρ (iEnumT c.K (tCons te tNil)) (enumD ds) ρ1 := fun T σ H W R q => h T σ H W _ fun v H1 W1 => by
  obtain ⟨a, xs, rfl, hs, h2⟩ := dp_tup W1.dp
  refine ⟨a, xs, rfl, (ex_p (hide_ex _ _) hs).sq, q _ H1 [(.ref a, .tuple ds)] W1 ?_⟩
  rintro c' T' σ' H' ρ' hK W'
  obtain ⟨b, ys, e, hs', h2'⟩ := dp_tup W'.dp
  cases e
  have hs2 : SqT c.K H' a ys := hK ▸ (ex_p (hide_ex _ _) hs').sq
  have hl := dpa_length h2'
  rw [enumD_len]
  refine ⟨fun i hi => ?_, fun i hi => ⟨ys, hs2, by omega⟩⟩
  obtain ⟨x, hx, dx⟩ := dpa_get h2' (List.getElem?_eq_getElem hi)
  refine ⟨⟨ys, x, hs2, hx⟩, fun y H2 hy => ?_⟩
  obtain ⟨p, z, rfl, hp, rfl, hy⟩ := hy
  have ez := (hy ys hs2).symm.trans hx
  rw [Option.some.inj ez]
  have W2 := W'.grow (Ex.new (o := .tup [.int (i : Nat), x]) hp)
  have e2 : Ex (hide (hid c' ρ') H') (hide (hid c' ρ') (upd H' p (.tup [.int (i : Nat), x]))) := hide_mono fun a o n h => ⟨n, Ex.new hp a o h⟩
  exact ⟨_, enumD_get (List.getElem?_eq_getElem hi), p, [.int (i : Nat), x], rfl, .inl (.inl upd_same), rfl, (W2.push (dpm e2 dx)).push (.int _)⟩
theorem ei_enumTX {α : Type} {f : α → PyData} {l : List α} (h : Ed c ρ te (.tuple (l.map f)) ρ1) : Ei c ρ (iEnumT c.K (tCons te tNil)) (l.zipIdx.map fun p => Itm.soft [PyData.int (p.2 : Int), f p.1]) ρ1 := by
  have := ei_enumT h
  unfold enumD at this
  rw [List.zipIdx_map, List.map_map] at this
  exact this
end
end Nz

/-! more rules: in, range downward, the last place of a list -/
namespace Nz
open PySem PySem.Spec PyProof.Rows L2 RZ
section
variable {c : Cz} {ρ ρ1 ρ2 ρ3 : List Sl} {ta tb te tc : TE} {d : PyData} {T : Tm}
theorem flat_ints (l : List Int) : (l.map V.int).all flatV = true := by rw [List.all_map, List.all_eq_true]; exact fun _ _ => rfl
theorem flat_strs (l : List Str) : (l.map V.str).all flatV = true := by rw [List.all_map, List.all_eq_true]; exact fun _ _ => rfl
theorem inV_int (i : Int) (l : List Int) : inV (.int i) (l.map V.int) = decide (i ∈ l) := by
  unfold inV
  rw [List.any_map]
  induction l with
  | nil => rfl
  | cons a l ih =>
    rw [List.any_cons, ih]
    by_cases e : a = i
    · subst e; simp [eqV]
    · have e' : ¬ i = a := fun z => e z.symm
      simp [eqV, e, e']
theorem inV_str (i : Str) (l : List Str) : inV (.str i) (l.map V.str) = decide (i ∈ l) := by
  unfold inV
  rw [List.any_map]
  induction l with
  | nil => rfl
  | cons a l ih =>
    rw [List.any_cons, ih]
    by_cases e : a = i
    · subst e; simp [eqV]
    · have e' : ¬ i = a := fun z => e z.symm
      simp [eqV, e, e']
theorem dpaStrs {K : PySem.W.Frag} {H : Hp} : ∀ {ns : List Str} {xs : List V}, DzAll K H xs (ns.map .str) → xs = ns.map V.str
  | [], _, h => by cases h; rfl
  | n :: ns, _, h => by
    cases h with
    | cons a b => rw [dp_str a, dpaStrs b]; rfl
theorem ed_inSq {neg : Bool} {v : PyData} {ds : List PyData} {s : PyData} {b : Bool} (hs : s = .list ds ∨ s = .tuple ds) (ha : Ed c ρ ta v ρ1) (hb : Ed c ρ1 tb s ρ2)
    (hi : ∀ (H : Hp) (x : V) (xs : List V), Dz c.K H x v → DzAll c.K H xs ds → flatV x = true ∧ xs.all flatV = true ∧ inV x xs = b) : Ed c ρ (tOp (rIn c.K neg) ta tb) (.bool (if neg then !b else b)) ρ2 :=
  ed_op ha hb fun T σ H x y W hx hy Q q => by
    rcases hs with rfl | rfl
    · obtain ⟨a, xs, rfl, sq, all⟩ := dp_lst hy
      obtain ⟨f1, f2, f3⟩ := hi _ _ _ hx all
      exact ⟨a, xs, rfl, .inl (ex_l (hide_ex _ _) sq), f1, f2, by rw [f3]; exact q _ H (W.push (.bl _))⟩
    · obtain ⟨a, xs, rfl, sq, all⟩ := dp_tup hy
      obtain ⟨f1, f2, f3⟩ := hi _ _ _ hx all
      exact ⟨a, xs, rfl, .inr (ex_p (hide_ex _ _) sq).sq, f1, f2, by rw [f3]; exact q _ H (W.push (.bl _))⟩
theorem in_ints {K : PySem.W.Frag} {i : Int} {l : List Int} (H : Hp) (x : V) (xs : List V) (hx : Dz K H x (.int i)) (h : DzAll K H xs (l.map .int)) : flatV x = true ∧ xs.all flatV = true ∧ inV x xs = decide (i ∈ l) := by
  rw [dp_int hx, dpaInts h]
  exact ⟨rfl, flat_ints l, inV_int i l⟩
theorem in_strs {K : PySem.W.Frag} {i : Str} {l : List Str} (H : Hp) (x : V) (xs : List V) (hx : Dz K H x (.str i)) (h : DzAll K H xs (l.map .str)) : flatV x = true ∧ xs.all flatV = true ∧ inV x xs = decide (i ∈ l) := by
  rw [dp_str hx, dpaStrs h]
  exact ⟨rfl, flat_strs l, inV_str i l⟩
theorem ed_inLI {i : Int} {l : List Int} (ha : Ed c ρ ta (.int i) ρ1) (hb : Ed c ρ1 tb (.list (l.map .int)) ρ2) : Ed c ρ (tOp (rIn c.K false) ta tb) (.bool (decide (i ∈ l))) ρ2 := ed_inSq (.inl rfl) ha hb in_ints
theorem ed_inTI {i : Int} {l : List Int} (ha : Ed c ρ ta (.int i) ρ1) (hb : Ed c ρ1 tb (.tuple (l.map .int)) ρ2) : Ed c ρ (tOp (rIn c.K false) ta tb) (.bool (decide (i ∈ l))) ρ2 := ed_inSq (.inr rfl) ha hb in_ints
theorem ed_ninLI {i : Int} {l : List Int} (ha : Ed c ρ ta (.int i) ρ1) (hb : Ed c ρ1 tb (.list (l.map .int)) ρ2) : Ed c ρ (tOp (rIn c.K true) ta tb) (.bool (!decide (i ∈ l))) ρ2 := ed_inSq (neg := true) (.inl rfl) ha hb in_ints
theorem ed_ninTI {i : Int} {l : List Int} (ha : Ed c ρ ta (.int i) ρ1) (hb : Ed c ρ1 tb (.tuple (l.map .int)) ρ2) : Ed c ρ (tOp (rIn c.K true) ta tb) (.bool (!decide (i ∈ l))) ρ2 := ed_inSq (neg := true) (.inr rfl) ha hb in_ints
theorem ed_inTS {i : Str} {l : List Str} (ha : Ed c ρ ta (.str i) ρ1) (hb : Ed c ρ1 tb (.tuple (l.map .str)) ρ2) : Ed c ρ (tOp (rIn c.K false) ta tb) (.bool (decide (i ∈ l))) ρ2 := ed_inSq (.inr rfl) ha hb in_strs
theorem ed_ninTS {i : Str} {l : List Str} (ha : Ed c ρ ta (.str i) ρ1) (hb : Ed c ρ1 tb (.tuple (l.map .str)) ρ2) : Ed c ρ (tOp (rIn c.K true) ta tb) (.bool (!decide (i ∈ l))) ρ2 := ed_inSq (neg := true) (.inr rfl) ha hb in_strs
/-! range(a, b, -1) -/
def rngDn (a b : Int) : List Int := (List.range (a - b).toNat).map fun (i : Nat) => a - (i : Int)
theorem ei_rngDn {a b : Int} (h : Ed c ρ ta (.int a) ρ1) (h2 : Ed c ρ1 tb (.int b) ρ2) (h3 : Ed c ρ2 tc (.int (-1)) ρ3) (hn : (-4000000000 ≤ a ∧ a ≤ 4000000000) ∧ -4000000000 ≤ b ∧ b ≤ 4000000000) :
    Ei c ρ (iRng3 (tCons ta (tCons tb (tCons tc tNil)))) ((rngDn a b).map fun (i : Int) => Itm.hard (PyData.int i)) ρ3 := fun T σ H W R q => h T σ H W _ fun v H1 W1 => h2 _ σ H1 W1 _ fun w H2 W2 => h3 _ σ H2 W2 _ fun z H3 W3 => by
  refine ⟨a, b, -1, (a - b).toNat, by rw [dp_int W3.pop.pop.dp, dp_int W3.pop.dp, dp_int W3.dp], RgC.neg (by omega) (by omega) (by omega) (by omega), q _ H3 [] W3.pop.pop.pop ?_⟩
  intro c' T' σ' H' ρ' hK W'
  have hl : ((rngDn a b).map fun (i : Int) => Itm.hard (PyData.int i)).length = (a - b).toNat := by unfold rngDn; simp
  rw [hl]
  refine ⟨fun i hi => ⟨hi, fun x H4 hy => ?_⟩, fun i hi => hi⟩
  obtain ⟨rfl, rfl⟩ := hy
  refine ⟨.hard (.int (a - (i : Int))), ?_, ?_⟩
  · unfold rngDn
    rw [List.map_map, List.getElem?_map, List.getElem?_range hi]; rfl
  · have e : a + ((i : Nat) : Int) * -1 = a - (i : Int) := by omega
    rw [e]
    exact W'.push (.int _)
/-! the last place of a list -/
variable {D : Ends} {nx bk ct : L2.St → Hp → Prop} {rt : VK}
theorem s_setLast {α : Type} {f : α → PyData} {i : Nat} {l : Bool} {a : Addr} {xs : List α} {x : α} {j : Int} (h : Ed c ρ te (f x) ρ1) (hj : Ed c ρ1 tb (.int j) ρ2) (h0 : ∃ l o, ρ1[i]? = some (.mu l a o)) (ha : ρ2[i]? = some (.mu l a (.lst (xs.map f)))) (hn : j = -1 ∧ 0 < xs.length)
    (k : Sk c T (ρ2.set i (.mu l a (.lst ((xs.set (xs.length - 1) x).map f)))) nx) : Ss c T ρ (tAsg te (gSub (tVar i) tb rSetL)) ⟨nx, rt, bk, ct⟩ :=
  s_setL h hj h0 ha (n := xs.length - 1) (by
    obtain ⟨rfl, h0⟩ := hn
    unfold ixN
    rw [if_neg (by decide), if_pos (by rw [List.length_map]; omega)]
    congr 1
    rw [List.length_map]; omega) (by rw [← List.map_set]; exact k)
end
/-- the items of a list within a comprehension: K said, that no name of the inner block goes into the walk's word -/
theorem pi_listK {X : Cx} {tg l : Expr} {tl : TE} (K : PySem.W.Frag) (hl : PE X l tl) (e : X.K = K := by rfl) : PI X tg l (iList K tl) := e ▸ pi_list hl
section
variable {c : Cz} {ρ ρ1 : List Sl} {T : Tm} {nx bk ct : L2.St → Hp → Prop} {rt : VK}
theorem aa3 {K : PySem.W.Frag} {H : Hp} {vs : List V} {d d1 d2 : PyData} (a : AA K H vs [.dat d, .dat d1, .dat d2]) : ∃ u v w, vs = [u, v, w] ∧ Dz K H u d ∧ Dz K H v d1 ∧ Dz K H w d2 := by
  cases a with
  | dat h t =>
    obtain ⟨v, w, rfl, h2, h3⟩ := aa2 t
    exact ⟨_, v, w, rfl, h, h2, h3⟩
/-- a, b, d = x, y, z -/
theorem s_par3 {i j l : Nat} {x y z : PyData} {tp : TA} (h : Ea c ρ tp [.dat x, .dat y, .dat z] ρ1) (k : Sk c T (((ρ1.set i (.da x)).set j (.da y)).set l (.da z)) nx) : Ss c T ρ (tPar3 i j l tp) ⟨nx, rt, bk, ct⟩ := fun σ H W => h T σ H W _ fun vs H1 a W1 => by
  obtain ⟨u, v, w, rfl, h1, h2, h3⟩ := aa3 a
  refine ⟨u, v, w, rfl, ?_⟩
  have W2 := (((W1.push h3).push h2).push h1).setD i h1
  have W3 := W2.pop.setD j (W2.tmp (v, y) (by simp))
  have W4 := W3.pop.setD l (W3.tmp (w, z) (by simp))
  exact k _ _ W4.pop
end
end Nz

/-! set(a list of kints), and that set sorted -/
namespace Nz
open PySem PySem.Spec PyProof.Rows L2 RZ
section
variable {P : Program} {w : World} {A : Around} {E : Value → Shared → Prop} {s : Shared}
abbrev noneIn (w : World) : Obj := { cls := .type "set", dict := none, data := .set #[] 0 (.fresh 0 0 (!w.params.followText "set-order")) }
set_option maxHeartbeats 8000000 in
theorem list_toSet {at_ : Addr} {vals : Array Value} (ks : List Int) {Q : Value → Shared → Prop} (calm : A.handled = none) (isL : s.heap.IsList at_ vals) (kints : IntsAre vals.toList ks) (few : ks.length + 1 < scanBound)
    (fin_ : ∀ (g' : Heap) (n c : Nat), SetR w g' s.heap.objs.size (fun j => decide (j ∈ ks)) c → c ≤ ks.length → (∀ b o, s.heap.get? b = some o → g'.get? b = some o) → Q (.ref s.heap.objs.size) { s with heap := g', toks := n }) :
    wpAny (model P w) A (call (.type "set") [.ref at_]) Q E s := by
  have size_ks : vals.size = ks.length := by have z := IntsAre.length kints; rwa [Array.length_toList] at z
  obtain ⟨cc, ctl, order⟩ := F.called_set.mro
  have made_ := F.called_set.made; have sub_ := F.called_set.sub; have kind1 := F.called_set.notType; have kind2 := F.called_set.canCreate; have called := F.typeCall_set_1 (.ref at_)
  refine wpAny_call (codeAny_of_tree ?_); show wpAny _ _ (callAny (.type "set") _) _ _ _
  refine wpAny_pure ⟨Code.quiet_builtin _ (by decide +kernel), codeAny_builtin F.entry_type_call ?_⟩; rw [Around.under_plain (weight_type_call_type "set" [.ref at_] []) rfl]
  repeat (any_goals (first | wp_step | assumption))
  refine codeAny_mono (code_set_led1 (.ref at_) (E := E) (Q₁ := fun z s₁ => z = .ref s.heap.objs.size ∧ s₁ = { s with heap := s.heap.push (noneIn w) }) ⟨rfl, rfl⟩) fun res s₁ hres => ?_
  match res, hres with
  | .error _, hres => exact hres
  | .ok (.ret z), hres =>
    obtain ⟨rfl, rfl⟩ := hres
    have newS : (s.heap.push (noneIn w)).get? s.heap.objs.size = some (noneIn w) := Heap.get?_push_size _ rfl
    have tyS : Shared.TypeIs { s with heap := s.heap.push (noneIn w) } (.ref s.heap.objs.size) "set" := ⟨_, newS, rfl⟩
    have look := F.called_set.init.lookup; have bind_ := F.called_set.init.bind (.ref s.heap.objs.size)
    repeat (any_goals (first | wp_step | assumption))
    refine codeAny_mono (codeAny_call_builtin (R := wants (fun z s₂ => z = .none ∧ ∃ g' n c, s₂ = { s with heap := g', toks := n } ∧ SetR w g' s.heap.objs.size (fun j => decide (j ∈ ks)) c ∧ c ≤ ks.length ∧ ∀ b o, s.heap.get? b = some o → g'.get? b = some o) E)
      F.called_set.init.plain F.entry_set_init (check_set_init_1 tyS ?_)) fun res₂ s₂ hres₂ => ?_
    · obtain ⟨oL, getL, clsL, nL, datL⟩ := isL
      obtain ⟨kcls, kdict, kdata, kslots⟩ := oL
      dsimp only at clsL datL
      subst clsL datL
      have getL2 : (s.heap.push (noneIn w)).get? at_ = some { cls := .type "list", dict := kdict, data := .seq vals nL, slots := kslots } := Heap.get?_push_of_some _ getL
      have no1 := F.sub_list_set; have no2 := F.sub_list_frozenset
      have no3 : (Value.type "list" == Value.type "dict") = false := by decide
      have isL2 : (s.heap.push (noneIn w)).IsList at_ vals := ⟨_, getL2, rfl, nL, rfl⟩
      unfold Builtin.«set.__init__» noKeywords Builtin.Frozenset.updateFrom
      generalize hPI : pyIter = PI
      wp_walk
      subst hPI
      refine wpAny_pyIter_list isL2 (wpAny_bind (wpAny_runValue ?_))
      have ltL : at_ < s.heap.objs.size := Heap.lt_size getL
      have calm3 : A.in1.in1.in1.handled = none := by simp [calm]
      have neI : at_ ≠ (s.heap.push (noneIn w)).objs.size := (Heap.size_push ..).symm ▸ Nat.ne_of_lt (Nat.lt_succ_of_lt ltL)
      have out_ : s.heap.objs.size ∉ [(s.heap.push (noneIn w)).objs.size, at_] := by
        rw [Heap.size_push]; intro hm; rcases List.mem_cons.mp hm with e | e
        · exact absurd e (Nat.ne_of_lt (Nat.lt_succ_self _))
        · exact absurd (List.mem_singleton.mp e) (Nat.ne_of_gt ltL)
      have item_ : ∀ (i : Nat) (v : Value), vals[i]? = some v → ∃ k t, ks[i]? = some k ∧ v = .int k t := fun i v hv => by
        have hi : i < ks.length := by rw [← size_ks]; exact (Array.getElem?_eq_some_iff.mp hv).1
        obtain ⟨t, e⟩ := IntsAre.int_at kints i v (by rw [Array.getElem?_toList]; exact hv)
        exact ⟨ks[i], t, List.getElem?_eq_getElem hi, by rw [e, List.getD_eq_getElem?_getD, List.getElem?_eq_getElem hi] <;> rfl⟩
      refine set_update_ints ((Walks.list calm3 _ at_ neI vals).toS) s.heap.objs.size out_ ks size_ks few item_ (vals.size - 0) 0 _ (by omega) (Nat.zero_le _) ⟨⟨_, Heap.get?_push_size _ rfl, rfl, rfl⟩, (isL2.push _)⟩ ?h0 ?h1
      case h0 => exact ⟨0, Nat.le_refl 0, setR_new_at (Heap.get?_push_of_some _ newS)⟩
      case h1 =>
        intro s' c' mv hc' hS'
        have e1 := mv.gens; have e2 := mv.drawn; have e3 := mv.os; have keep := mv.heap
        obtain ⟨g', gn', dr', tk', os'⟩ := s'
        dsimp only at e1 e2 e3 hS' keep
        subst e1 e2 e3
        show wpAny _ _ _ _ _ _
        refine wpAny_pure ?_
        show wpAny _ _ (ret Value.none) _ _ _
        refine wpAny_pure ⟨rfl, g', tk', c', rfl, hS', by omega, fun b o e => ?_⟩
        have lb : b < s.heap.objs.size := Heap.lt_size e
        refine keep b o ?_ (Heap.get?_push_of_some _ (Heap.get?_push_of_some _ e))
        intro hm; rcases List.mem_cons.mp hm with q | q
        · exact absurd q (Nat.ne_of_lt lb)
        · refine absurd (List.mem_singleton.mp q) ?_
          rw [Heap.size_push]; exact Nat.ne_of_lt (Nat.lt_succ_of_lt lb)
    · match res₂, hres₂ with
      | .error _, hres₂ => exact hres₂
      | .ok (.ret z), hres₂ =>
        obtain ⟨rfl, g', n, c, rfl, hS', hc', keep⟩ := hres₂
        repeat (any_goals (first | wp_step | assumption))
        exact fin_ _ _ _ hS' hc' keep
end
section
variable {X : Cx}
/-- set(a list of kints) -/
def rSetLI (K : PySem.W.Frag) (w : World) : List V → Hp → VK → Prop := fun xs H Q => ∃ (a : Addr) (ns : List Int), xs = [.ref a] ∧ SqL K H a (ns.map V.int) ∧ ns.length < 64 ∧ ∀ p c, H p = none → c ≤ ns.length → Q (.ref p) (upd H p (SetO w p (fun j => decide (j ∈ ns)) c))
theorem cr_setLI (hc : X.calm = true) : CallR X (.type "set") (rSetLI X.K X.w) := by
  intro pins s σ H xs us Q I r h
  obtain ⟨a, ns, rfl, hl, h64, q⟩ := h
  obtain ⟨its, rv, pl, hz⟩ := I.list hl
  rw [Vals.ref1 r]
  refine list_toSet ns (I.ok.hd hc) pl.isList (by simpa using rv.ints) (by unfold scanBound; omega) fun g' n c R hle keep => ?_
  exact ⟨.ref _, upd H s.heap.objs.size (SetO X.w s.heap.objs.size (fun j => decide (j ∈ ns)) c), I.laid (t' := n) keep (Nat.le_refl _) (setO_new R), rfl, q _ _ (I.hok.fresh (Nat.le_refl _)) hle⟩
end
end Nz

/-! dicts with ints as keys; sorted ints; sets of ints sorted -/
namespace Nz
open PySem PySem.Spec PyProof.Rows L2 RZ
section
variable {κ : Type} [DecidableEq κ] {β γ : Type}
def putP (l : List (κ × β)) (k : κ) (x : β) : List (κ × β) :=
  match l.any (fun p => decide (p.1 = k)) with
  | true => l.map fun p => if p.1 = k then (p.1, x) else p
  | false => l ++ [(k, x)]
def valP (l : List (κ × β)) (k : κ) : Option β := (l.find? fun p => decide (p.1 = k)).map Prod.snd
theorem putP_len (l : List (κ × β)) (k : κ) (x : β) : (putP l k x).length ≤ l.length + 1 := by unfold putP; split <;> simp
theorem putP_keys {l : List (κ × β)} {k : κ} {x : β} {j : κ} : j ∈ (putP l k x).map Prod.fst ↔ j = k ∨ j ∈ l.map Prod.fst := by
  unfold putP
  split
  · rename_i h
    rw [List.map_map]
    have e : (Prod.fst ∘ fun p : κ × β => if p.1 = k then (p.1, x) else p) = Prod.fst := by funext p; show (if p.1 = k then (p.1, x) else p).1 = p.1; split <;> rfl
    rw [e]
    constructor
    · exact Or.inr
    · rintro (rfl | h2)
      · obtain ⟨p, hp, hk⟩ := List.any_eq_true.mp h
        exact List.mem_map.mpr ⟨p, hp, of_decide_eq_true hk⟩
      · exact h2
  · rw [List.map_append, List.mem_append]
    simp
    constructor
    · rintro (h | h)
      · exact .inr h
      · exact .inl h
    · rintro (h | h)
      · exact .inr h
      · exact .inl h
theorem valP_put {l : List (κ × β)} {k j : κ} {x : β} : valP (putP l k x) j = if j = k then some x else valP l j := by
  unfold putP
  split
  · rename_i h
    unfold valP
    have e : ((fun p : κ × β => decide (p.1 = j)) ∘ fun p : κ × β => if p.1 = k then (p.1, x) else p) = fun p => decide (p.1 = j) := by
      funext p; show decide ((if p.1 = k then (p.1, x) else p).1 = j) = _; split <;> rfl
    rw [List.find?_map, e]
    cases hf : l.find? (fun p => decide (p.1 = j)) with
    | none =>
      by_cases q : j = k
      · subst q
        obtain ⟨p, hp, hk⟩ := List.any_eq_true.mp h
        exact absurd hk (List.find?_eq_none.mp hf p hp)
      · rw [if_neg q]; rfl
    | some p =>
      have hp : p.1 = j := of_decide_eq_true (List.find?_some (p := fun p : κ × β => decide (p.1 = j)) hf)
      show some (if p.1 = k then (p.1, x) else p).2 = _
      rw [hp]
      by_cases q : j = k
      · rw [if_pos q, if_pos q]
      · rw [if_neg q, if_neg q]; rfl
  · rename_i h
    unfold valP
    rw [List.find?_append]
    by_cases e : j = k
    · subst e
      have : List.find? (fun p => decide (p.1 = j)) l = none := by
        rw [List.find?_eq_none]
        intro p hp
        have := List.any_eq_false.mp h p hp
        simpa using this
      rw [this]; simp
    · rw [if_neg e]
      have : List.find? (fun p : κ × β => decide (p.1 = j)) [(k, x)] = none := by
        simp; exact fun z => e z.symm
      rw [this, Option.or_none]
theorem putP_map {κ' : Type} [DecidableEq κ'] {e : κ → κ'} (he : ∀ a b, e a = e b → a = b) (f : β → γ) (l : List (κ × β)) (k : κ) (x : β) : (putP l k x).map (fun p => (e p.1, f p.2)) = putP (l.map fun p => (e p.1, f p.2)) (e k) (f x) := by
  have d : ∀ a : κ, decide (e a = e k) = decide (a = k) := fun a => by
    by_cases q : a = k
    · subst q; simp
    · rw [decide_eq_false q, decide_eq_false fun z => q (he _ _ z)]
  unfold putP
  have ea : (l.map fun p => (e p.1, f p.2)).any (fun p => decide (p.1 = e k)) = l.any fun p => decide (p.1 = k) := by
    rw [List.any_map]; congr 1; funext p; exact d p.1
  rw [ea]
  split
  · rw [List.map_map, List.map_map]
    refine List.map_congr_left fun p _ => ?_
    show (e (if p.1 = k then (p.1, x) else p).1, f (if p.1 = k then (p.1, x) else p).2) = if e p.1 = e k then (e p.1, f x) else (e p.1, f p.2)
    by_cases q : p.1 = k
    · rw [if_pos q, if_pos (congrArg e q)]
    · rw [if_neg q, if_neg fun z => q (he _ _ z)]
  · rw [List.map_append]; rfl
theorem valP_map {κ' : Type} [DecidableEq κ'] {e : κ → κ'} (he : ∀ a b, e a = e b → a = b) (f : β → γ) (l : List (κ × β)) (k : κ) : valP (l.map fun p => (e p.1, f p.2)) (e k) = (valP l k).map f := by
  have d : ((fun p : κ' × γ => decide (p.1 = e k)) ∘ fun p : κ × β => (e p.1, f p.2)) = fun p => decide (p.1 = k) := by
    funext p
    show decide (e p.1 = e k) = _
    by_cases q : p.1 = k
    · rw [q]; simp
    · rw [decide_eq_false q, decide_eq_false fun z => q (he _ _ z)]
  unfold valP
  rw [List.find?_map, d, Option.map_map, Option.map_map]
  rfl
end
/-! what the machine's tables say of data -/
section
variable {κ : Type} [DecidableEq κ] {K : PySem.W.Frag} {H : Hp}
theorem kvd_len {xs : List (κ × V)} {ks : List (κ × PyData)} (h : KVd K H xs ks) : xs.length = ks.length := Paired.length h
theorem kvd_keys : ∀ {xs : List (κ × V)} {ks : List (κ × PyData)}, KVd K H xs ks → xs.map Prod.fst = ks.map Prod.fst
  | _, _, .nil => rfl
  | _, _, .cons h t => by rw [List.map_cons, List.map_cons, h.1, kvd_keys t]
theorem kvd_val {k : κ} : ∀ {xs : List (κ × V)} {ks : List (κ × PyData)}, KVd K H xs ks → (∀ d, valP ks k = some d → ∃ v, valV xs k = some v ∧ Dz K H v d) ∧ (valP ks k = none → valV xs k = none)
  | _, _, .nil => ⟨fun d h => (nomatch h), fun _ => rfl⟩
  | (x :: xs), (y :: ys), .cons h t => by
    obtain ⟨i1, i2⟩ := kvd_val (k := k) t
    by_cases q : y.1 = k
    · have q' : x.1 = k := h.1.trans q
      rw [valV_pos q']
      have e : valP (y :: ys) k = some y.2 := by unfold valP; rw [List.find?_cons]; simp [q]
      rw [e]
      exact ⟨fun d z => ⟨x.2, rfl, Option.some.inj z ▸ h.2⟩, fun z => by cases z⟩
    · have q' : ¬ x.1 = k := fun z => q (h.1.symm.trans z)
      rw [valV_neg q']
      have e : valP (y :: ys) k = valP ys k := by unfold valP; rw [List.find?_cons]; simp [q]
      rw [e]
      exact ⟨i1, i2⟩
theorem kvd_any {k : κ} : ∀ {xs : List (κ × V)} {ks : List (κ × PyData)}, KVd K H xs ks → (xs.any fun p => decide (p.1 = k)) = ks.any fun p => decide (p.1 = k)
  | _, _, .nil => rfl
  | _, _, .cons h t => by rw [List.any_cons, List.any_cons, h.1, kvd_any t]
theorem kvd_snoc {k : κ} {v : V} {d : PyData} (hv : Dz K H v d) : ∀ {xs : List (κ × V)} {ks : List (κ × PyData)}, KVd K H xs ks → KVd K H (xs ++ [(k, v)]) (ks ++ [(k, d)])
  | _, _, .nil => .cons ⟨rfl, hv⟩ .nil
  | _, _, .cons h t => .cons h (kvd_snoc hv t)
theorem kvd_repl {k : κ} {v : V} {d : PyData} (hv : Dz K H v d) : ∀ {xs : List (κ × V)} {ks : List (κ × PyData)}, KVd K H xs ks → KVd K H (xs.map fun p => if p.1 = k then (p.1, v) else p) (ks.map fun p => if p.1 = k then (p.1, d) else p)
  | _, _, .nil => .nil
  | (x :: xs), (y :: ys), .cons h t => by
    refine .cons ?_ (kvd_repl hv t)
    show (if x.1 = k then (x.1, v) else x).1 = (if y.1 = k then (y.1, d) else y).1 ∧ Dz K H (if x.1 = k then (x.1, v) else x).2 (if y.1 = k then (y.1, d) else y).2
    by_cases q : y.1 = k
    · rw [if_pos q, if_pos (h.1.trans q)]; exact ⟨h.1, hv⟩
    · rw [if_neg q, if_neg fun z => q (h.1.symm.trans z)]; exact h
theorem kvd_put {k : κ} {v : V} {d : PyData} {xs : List (κ × V)} {ks : List (κ × PyData)} (h : KVd K H xs ks) (hv : Dz K H v d) : KVd K H (putK xs k v) (putP ks k d) := by
  unfold putK putP
  have e := kvd_any (k := k) h
  cases q : ks.any fun p => decide (p.1 = k) with
  | true => rw [q] at e; rw [if_pos e]; exact kvd_repl hv h
  | false => rw [q] at e; rw [if_neg (by rw [e]; decide)]; exact kvd_snoc hv h
end
theorem inl_inj (a b : Int) (h : (Sum.inl a : Key) = Sum.inl b) : a = b := Sum.inl.inj h
abbrev eD {α : Type} (f : α → PyData) (l : List (Int × α)) : List (Key × PyData) := l.map fun p => (Sum.inl p.1, f p.2)
theorem eD_put {α : Type} (f : α → PyData) (l : List (Int × α)) (k : Int) (x : α) : putP (eD f l) (Sum.inl k) (f x) = eD f (putP l k x) := (putP_map inl_inj f l k x).symm
theorem eD_val {α : Type} (f : α → PyData) (l : List (Int × α)) (k : Int) : valP (eD f l) (Sum.inl k) = (valP l k).map f := valP_map inl_inj f l k
/-! ints, sorted -/
def sortI (l : List Int) : List Int := l.mergeSort fun a b => decide (a ≤ b)
theorem sortI_perm (l : List Int) : (sortI l).Perm l := List.mergeSort_perm l _
theorem sortI_asc (l : List Int) : (sortI l).Pairwise (· ≤ ·) := by
  have h := List.pairwise_mergeSort (le := fun a b : Int => decide (a ≤ b)) (fun a b c h1 h2 => by simp at *; omega) (fun a b => by simp; omega) l
  exact h.imp fun {a b} z => of_decide_eq_true z
theorem sortI_len (l : List Int) : (sortI l).length = l.length := (sortI_perm l).length_eq
theorem sortI_mem {l : List Int} {x : Int} : x ∈ sortI l ↔ x ∈ l := (sortI_perm l).mem_iff
theorem sortI_un {l ys : List Int} (h : ys.Perm l) (h2 : ys.Pairwise (· ≤ ·)) : ys = sortI l :=
  List.Perm.eq_of_pairwise (fun a b _ _ h1 h2 => by omega) h2 (sortI_asc l) (h.trans (sortI_perm l).symm)
/-- each once, ascending -/
def dd1 : List Int → List Int
  | [] => []
  | a :: l => if a ∈ l then dd1 l else a :: dd1 l
theorem dd1_mem : ∀ {l : List Int} {x : Int}, x ∈ dd1 l ↔ x ∈ l
  | [], _ => Iff.rfl
  | a :: l, x => by
    unfold dd1
    split
    · rename_i h
      rw [dd1_mem, List.mem_cons]
      exact ⟨.inr, fun z => z.elim (fun e => e ▸ h) id⟩
    · rw [List.mem_cons, List.mem_cons, dd1_mem]
theorem dd1_nodup : ∀ l : List Int, (dd1 l).Nodup
  | [] => .nil
  | a :: l => by
    unfold dd1
    split
    · exact dd1_nodup l
    · rename_i h
      exact List.nodup_cons.mpr ⟨fun z => h (dd1_mem.mp z), dd1_nodup l⟩
theorem dd1_len : ∀ l : List Int, (dd1 l).length ≤ l.length
  | [] => Nat.le_refl _
  | a :: l => by
    unfold dd1
    have := dd1_len l
    split
    · rw [List.length_cons]; omega
    · rw [List.length_cons, List.length_cons]; omega
def sortU (l : List Int) : List Int := sortI (dd1 l)
theorem sortU_len (l : List Int) : (sortU l).length ≤ l.length := by unfold sortU; rw [sortI_len]; exact dd1_len l
theorem sortU_mem {l : List Int} {x : Int} : x ∈ sortU l ↔ x ∈ l := by unfold sortU; rw [sortI_mem, dd1_mem]
theorem asc_strict : ∀ {l : List Int}, l.Pairwise (· ≤ ·) → l.Nodup → l.Pairwise (· < ·)
  | [], _, _ => .nil
  | a :: l, h, n => by
    rw [List.pairwise_cons] at h ⊢
    rw [List.nodup_cons] at n
    exact ⟨fun b hb => by have := h.1 b hb; have : a ≠ b := fun e => n.1 (e ▸ hb); omega, asc_strict h.2 n.2⟩
theorem sortU_asc (l : List Int) : (sortU l).Pairwise (· < ·) := asc_strict (sortI_asc _) ((sortI_perm _).nodup_iff.mpr (dd1_nodup l))
theorem strict_nodup {l : List Int} (h : l.Pairwise (· < ·)) : l.Nodup := h.imp fun {a b} z e => by omega
theorem sortU_un {l ys : List Int} (h : ys.Pairwise (· < ·)) (h2 : ∀ x, x ∈ ys ↔ x ∈ l) : ys = sortU l := by
  refine List.Perm.eq_of_pairwise (le := (· < ·)) (fun a b _ _ h1 h2 => by omega) h (sortU_asc l) ?_
  exact (List.perm_ext_iff_of_nodup (strict_nodup h) (strict_nodup (sortU_asc l))).mpr fun x => by rw [h2, sortU_mem]
/-! ### the machine: dicts in slots -/
section
variable {c : Cz} {ρ ρ1 ρ2 ρ3 : List Sl} {ta tb te tv ty : TE} {t u : TT} {d d1 d2 d3 : PyData} {T : Tm} {H H' : Hp} {σ : L2.St}
variable {D : Ends} {ts tu : TS} {g : TG} {nx bk ct : L2.St → Hp → Prop} {rt : VK}
/-- x = {} -/
theorem s_asgD {i : Nat} (k : ∀ p, Sk c T (ρ.set i (.mu true p (.dK []))) nx) : Ss c T ρ (tAsg tDNewK (gName i)) ⟨nx, rt, bk, ct⟩ := fun σ H W p hp =>
  k p _ _ ((W.hideNew (o := .dK []) hp).setM W.sub i (by rw [if_pos rfl]; exact W.freshB hp) (W.fresh hp) ⟨[], upd_same, .nil⟩)
theorem upd_hid {a : Addr} {S : List Addr} {o : HO} (h : a ∈ S) : Ex (hide S H) (hide S (upd H a o)) := hide_mono fun b u nb e => ⟨nb, by rw [upd_ne (fun q => nb (by rw [q]; exact h))]; exact e⟩
/-- x[k] = v, of a dict -/
theorem s_dput {i : Nat} {l : Bool} {a : Addr} {ks : List (Key × PyData)} {k : Int} (hv : Ed c ρ tv d ρ1) (hk : Ed c ρ1 ty (.int k) ρ2) (h0 : ∃ l o, ρ1[i]? = some (.mu l a o)) (ha : ρ2[i]? = some (.mu l a (.dK ks))) (hz : ks.length < 100000)
    (kk : Sk c T (ρ2.set i (.mu l a (.dK (putP ks (Sum.inl k) d)))) nx) : Ss c T ρ (sDPut (tVar i) ty tv) ⟨nx, rt, bk, ct⟩ := fun σ H W => hv T σ H W _ fun v H1 W1 => by
  obtain ⟨l0, o0, h0⟩ := h0
  refine ⟨.ref a, (W1.ok i _ h0).1, hk _ σ H1 W1 _ fun w H2 W2 => ?_⟩
  obtain ⟨_, _, xs, e3, e4⟩ := W2.ok i _ ha
  refine ⟨a, _, rfl, by rw [dp_int W2.dp]; exact DPut.k (k := Sum.inl k) e3 (by rw [kvd_len e4]; exact Nat.lt_of_lt_of_le hz (by decide)), ?_⟩
  have hm : a ∈ hid c ρ2 := List.mem_append_right _ (mem_muts.mpr ⟨i, l, _, ha⟩)
  exact kk _ _ (W2.pop.pop.updM ha ⟨_, upd_same, (kvd_put e4 W2.pop.dp).mono (upd_hid hm)⟩)
/-- x[k], of a dict that holds it -/
theorem ed_dget {i : Nat} {l : Bool} {a : Addr} {ks : List (Key × PyData)} {k : Int} (hk : Ed c ρ ty (.int k) ρ1) (h0 : ∃ l o, ρ[i]? = some (.mu l a o)) (ha : ρ1[i]? = some (.mu l a (.dK ks))) (e : valP ks (Sum.inl k) = some d) :
    Ed c ρ (tDGet (tVar i) ty) d ρ1 := fun T σ H W Q q => by
  obtain ⟨l0, o0, h0⟩ := h0
  refine ⟨.ref a, (W.ok i _ h0).1, hk _ σ H W _ fun w H1 W1 => ?_⟩
  obtain ⟨_, _, xs, e3, e4⟩ := W1.ok i _ ha
  obtain ⟨v, e5, e6⟩ := (kvd_val e4).1 d e
  exact ⟨a, v, rfl, by rw [dp_int W1.dp, ← e5]; exact DGet.k (k := Sum.inl k) e3, q v H1 (W1.pop.push e6)⟩
/-- x.get(k, e) -/
theorem ed_dget2 {i : Nat} {l : Bool} {a : Addr} {ks : List (Key × PyData)} {k : Int} (hk : Ed c ρ ty (.int k) ρ1) (hd : Ed c ρ1 te d1 ρ2) (h0 : ρ[i]? = some (.mu l a (.dK ks))) (ha : ρ2[i]? = some (.mu l a (.dK ks))) (e : (valP ks (Sum.inl k)).getD d1 = d) :
    Ed c ρ (tDGet2 (tVar i) ty te) d ρ2 := fun T σ H W Q q => by
  obtain ⟨_, _, ys, e1, _⟩ := W.ok i _ h0
  refine ⟨.ref a, (W.ok i _ h0).1, a, rfl, .inl ⟨ys, .inl e1⟩, hk _ σ H W _ fun w H1 W1 => hd _ σ H1 W1 _ fun z H2 W2 => ?_⟩
  obtain ⟨_, _, xs, e3, e4⟩ := W2.ok i _ ha
  have hw := dp_int W2.pop.dp
  refine ⟨valV xs (Sum.inl k), by rw [hw]; exact DGet.k (k := Sum.inl k) e3, ?_⟩
  obtain ⟨k1, k2⟩ := kvd_val (k := (Sum.inl k : Key)) e4
  cases hv : valP ks (Sum.inl k : Key) with
  | none =>
    rw [hv] at e
    rw [k2 hv]
    have e : d1 = d := e
    subst e
    exact q _ H2 (W2.pop.pop.push W2.dp)
  | some d' =>
    rw [hv] at e
    obtain ⟨v, e5, e6⟩ := k1 d' hv
    rw [e5]
    have e : d' = d := e
    subst e
    exact q _ H2 (W2.pop.pop.push e6)
/-- k in x, k not in x -/
theorem ed_din {i : Nat} {l : Bool} {a : Addr} {ks : List (Key × PyData)} {k : Int} (hk : Ed c ρ ty (.int k) ρ1) (ha : ρ1[i]? = some (.mu l a (.dK ks))) : Ed c ρ (tDIn ty (tVar i)) (.bool (valP ks (Sum.inl k)).isSome) ρ1 := fun T σ H W Q q => hk T σ H W _ fun w H1 W1 => by
  obtain ⟨h1, _, xs, e3, e4⟩ := W1.ok i _ ha
  obtain ⟨k1, k2⟩ := kvd_val (k := (Sum.inl k : Key)) e4
  refine ⟨_, h1, a, valV xs (Sum.inl k), rfl, by rw [dp_int W1.dp]; exact DGet.k (k := Sum.inl k) e3, ?_⟩
  have e : (valV xs (Sum.inl k : Key)).isSome = (valP ks (Sum.inl k : Key)).isSome := by
    cases hv : valP ks (Sum.inl k : Key) with
    | none => rw [k2 hv]; rfl
    | some d' => obtain ⟨v, e5, _⟩ := k1 d' hv; rw [e5]; rfl
  rw [e]
  exact q _ H1 (W1.pop.push (.bl _))
theorem ed_dnin {i : Nat} {l : Bool} {a : Addr} {ks : List (Key × PyData)} {k : Int} (hk : Ed c ρ ty (.int k) ρ1) (ha : ρ1[i]? = some (.mu l a (.dK ks))) : Ed c ρ (tDNotIn ty (tVar i)) (.bool (!(valP ks (Sum.inl k)).isSome)) ρ1 := fun T σ H W Q q => hk T σ H W _ fun w H1 W1 => by
  obtain ⟨h1, _, xs, e3, e4⟩ := W1.ok i _ ha
  obtain ⟨k1, k2⟩ := kvd_val (k := (Sum.inl k : Key)) e4
  refine ⟨_, h1, a, valV xs (Sum.inl k), rfl, by rw [dp_int W1.dp]; exact DGet.k (k := Sum.inl k) e3, ?_⟩
  have e : (valV xs (Sum.inl k : Key)).isSome = (valP ks (Sum.inl k : Key)).isSome := by
    cases hv : valP ks (Sum.inl k : Key) with
    | none => rw [k2 hv]; rfl
    | some d' => obtain ⟨v, e5, _⟩ := k1 d' hv; rw [e5]; rfl
  rw [e]
  exact q _ H1 (W1.pop.push (.bl _))
def rSortD (K : PySem.W.Frag) : List V → Hp → VK → Prop := fun xs H Q => ∃ (a : Addr) (kvs : List (Key × V)) (ks : List Int), xs = [.ref a] ∧ Rd H a (.dK kvs) ∧ kvs.map (·.1) = ks.map Sum.inl ∧ ks.length < 64 ∧
  ∀ (ys : List Int) (p : Addr), ys.Perm ks → ys.Pairwise (· ≤ ·) → H p = none → Q (.ref p) (upd H p (.lst (ys.map V.int)))
/-- sorted(x), of a dict with few keys -/
theorem el_sortD {i : Nat} {l : Bool} {a : Addr} {α : Type} {f : α → PyData} {kvs : List (Int × α)} (ha : ρ[i]? = some (.mu l a (.dK (eD f kvs)))) (hz : kvs.length < 64) : EdL c ρ (tCB (rSortD c.K) (tCons (tVar i) tNil)) ((sortI (kvs.map Prod.fst)).map .int) ρ := fun T σ H W Q q => by
  obtain ⟨h1, _, xs, e3, e4⟩ := W.ok i _ ha
  refine ⟨.ref a, h1, a, xs, kvs.map Prod.fst, rfl, .inl e3, ?_, by rw [List.length_map]; exact hz, fun ys p hp hs hn => ?_⟩
  · have := kvd_keys e4
    rw [show (fun x : Key × V => x.1) = Prod.fst from rfl, this, List.map_map, List.map_map]; rfl
  · obtain ⟨x1, x2, x3, x4⟩ := el_new W (dpa_ints ys) hn
    rw [sortI_un hp hs] at x3 x4 ⊢
    exact q p _ x1 x2 x3 x4
/-- sorted(x), of ints -/
theorem el_sortI {l : List Int} (h : Ed c ρ te (.list (l.map .int)) ρ1) : EdL c ρ (tCB (rSortedI c.K) (tCons te tNil)) ((sortI l).map .int) ρ1 := fun T σ H W Q q => h T σ H W _ fun v H1 W1 => by
  obtain ⟨a, xs, rfl, hs, h2⟩ := dp_lst W1.dp
  rw [dpaInts h2] at hs
  refine ⟨a, l, rfl, ex_l (hide_ex _ _) hs, fun ys p hp ha hn => ?_⟩
  obtain ⟨x1, x2, x3, x4⟩ := el_new W1.pop (dpa_ints ys) hn
  rw [sortI_un hp ha] at x3 x4 ⊢
  exact q p _ x1 x2 x3 x4
theorem sortU_core {w : World} {l : List Int} (hz : l.length < 64) {ρ1 : List Sl} {v : V} {H1 : Hp} (W1 : Wd c ((v, .list (l.map .int)) :: T) H1 σ ρ1) {Q : VK}
    (q : ∀ p H', c.B p = none → p ∉ hid c ρ1 → MoOk c.K (p :: hid c ρ1) H' p (.lst ((sortU l).map .int)) → Wd (c.hidden p) T H' σ ρ1 → Q (.ref p) H') : rSetLI c.K w [v] H1 fun x H2 => rSortedSet w [x] H2 Q := by
  obtain ⟨a, xs, rfl, hs, h2⟩ := dp_lst W1.dp
  rw [dpaInts h2] at hs
  refine ⟨a, l, rfl, ex_l (hide_ex _ _) hs, hz, fun p n hp hn => ?_⟩
  have W2 := W1.pop.grow (Ex.new (o := SetO w p (fun j => decide (j ∈ l)) n) hp)
  refine ⟨p, _, n, rfl, upd_same, by omega, fun ys r hy hk hl hr => ?_⟩
  obtain ⟨x1, x2, x3, x4⟩ := el_new W2 (dpa_ints ys) hr
  rw [sortU_un (l := l) hy (fun k => (hk k).trans (by simp))] at x3 x4 ⊢
  exact q r _ x1 x2 x3 x4
/-- sorted(set(x)), of ints -/
theorem el_sortU {w : World} {l : List Int} (h : Ed c ρ te (.list (l.map .int)) ρ1) (hz : l.length < 64) : EdL c ρ (tCB (rSortedSet w) (tCons (tCB (rSetLI c.K w) (tCons te tNil)) tNil)) ((sortU l).map .int) ρ1 := fun T σ H W Q q => h T σ H W _ fun v H1 W1 =>
  sortU_core hz W1 q
theorem ewl_sortU {w : World} {P : List Int → Prop} (h : Ew c ρ te (fun l : List Int => PyData.list (l.map PyData.int)) P ρ1) (hz : ∀ l, P l → l.length < 64) :
    EwL c ρ (tCB (rSortedSet w) (tCons (tCB (rSetLI c.K w) (tCons te tNil)) tNil)) (fun l : List Int => l.map PyData.int) (fun z => ∃ l, P l ∧ z = sortU l) ρ1 := fun T σ H W Q q => h T σ H W _ fun l v H1 hl W1 =>
  sortU_core (hz l hl) W1 fun p H' => q (sortU l) p H' ⟨l, hl, rfl⟩
end
end Nz

/-! (x, ..) * n; not of a list -/
namespace Nz
open PySem PySem.Spec PyProof.Rows L2 RZ
theorem tup_once (l : Addr) (items : Array Value) (n : Nat) (dd : Option Addr) (sl : Array (Option Value)) (u : Tok) :
    Meets (Builtin.«tuple.__mul__» ⟨[.ref l, .int 1 u], []⟩) (fun _ R s => s.heap.get? l = some { cls := .type "tuple", dict := dd, data := .seq items n, slots := sl } ∧ R (.ok (.ret (Value.ref l))) s) :=
  .of_wp fun prog w A R s h => by
    obtain ⟨hp, g, d, tk, os⟩ := s
    obtain ⟨hl, h⟩ := h
    have f1 := AutoSeq1.idx_int
    have c1 : (items.isEmpty || (1 : Int) == 1) = true := by rw [Bool.or_comm]; rfl
    wp_walk using wpAny_loadPart' hl
    exact ⟨_, rfl, h⟩
/-- t * k, k from 1 on -/
def rRepF (K : PySem.W.Frag) : R2 := fun x y H Q => ∃ a k xs, x = .ref a ∧ y = .int k ∧ SqT K H a xs ∧ xs ≠ [] ∧ 1 ≤ k ∧ k ≤ 1000 ∧ xs.length ≤ 1000 ∧
  (k = 1 → Q (.ref a) H) ∧ (k ≠ 1 → ∀ p o, o.dict = none → H p = none → Q (.ref p) (upd H p (.frz o (.tup (List.replicate k.toNat xs).flatten))))
section
variable {X : Cx}
theorem op_repF : OpR X (binaryOp .Mult) (rRepF X.K) := by
  intro pins s σ H x y v u Q I rx ry h
  obtain ⟨a, k, xs, rfl, rfl, isT, some_, lo, hi, few, q1, q2⟩ := h
  cases rx
  obtain ⟨tk, rfl⟩ := ry
  obtain ⟨vs, rv, ⟨⟨kcls, kd, kdata, ksl⟩, geta, cls_, cn, dat_⟩, big⟩ := I.tuple isT
  dsimp only at cls_ dat_
  subst cls_ dat_
  have len_ : vs.length = xs.length := rv.length.symm
  by_cases one_ : k = 1
  · subst one_
    refine wpAny_binaryOp_repeat_ref (T := "tuple") (U := "int") (by decide) ⟨_, geta, rfl⟩ (fun s' => typeIs_int s' 1 tk) noFill_tuple_mul F.fills_int_mul F.slot_int_rmul repeat_tuple F.slot_int_index.lookup
      (call_meets F.slot_int_rmul (typeIs_int s 1 tk) F.entry_int_rmul (F.args_int_rmul_2 _ _) (int_rmul_tuple 1 tk a vs.toArray cn kd ksl) ⟨geta, rfl, ⟨_, geta, rfl⟩, call_meets F.slot_tuple_mul ⟨_, geta, rfl⟩ F.entry_tuple_mul (F.args_tuple_mul_2 _ _) (tup_once a vs.toArray cn kd ksl tk) ⟨geta, ?_⟩⟩)
    exact ⟨.ref a, H, I, rfl, q1 rfl⟩
  · have nil_ : vs ≠ [] := fun e => some_ (List.eq_nil_of_length_eq_zero (by rw [← len_, e]; rfl))
    have em : vs.toArray.isEmpty = false := by cases vs with
      | nil => exact absurd rfl nil_
      | cons a b => rfl
    have szA : vs.toArray.size = xs.length := by rw [List.size_toArray, len_]
    have below : ((vs.toArray.size : Nat) : Int) * k ≤ 1000000 := by
      rw [szA]
      have := Int.mul_le_mul_of_nonneg_right (show ((xs.length : Nat) : Int) ≤ 1000 by omega) (show 0 ≤ k by omega)
      omega
    have below2 : k.toNat * xs.length ≤ 1000 * 1000 := Nat.mul_le_mul (by omega) few
    have out_ : (List.replicate k.toNat vs).flatten.length ≤ sizeLine := by rw [PyProof.Rows.lm_len_rep_flat, len_, sizeLine_eq]; omega
    refine wpAny_binaryOp_repeat_ref (T := "tuple") (U := "int") (by decide) ⟨_, geta, rfl⟩ (fun s' => typeIs_int s' k tk) noFill_tuple_mul F.fills_int_mul F.slot_int_rmul repeat_tuple F.slot_int_index.lookup
      (call_meets F.slot_int_rmul (typeIs_int s k tk) F.entry_int_rmul (F.args_int_rmul_2 _ _) (int_rmul_tuple k tk a vs.toArray cn kd ksl) ⟨geta, rfl, ⟨_, geta, rfl⟩, call_meets F.slot_tuple_mul ⟨_, geta, rfl⟩ F.entry_tuple_mul (F.args_tuple_mul_2 _ _)
        (tuple_mulW a vs.toArray cn kd ksl k tk (by simp; omega) (by rw [em, Bool.false_or]; exact beq_eq_false_iff_ne.mpr one_) (by rw [em, Bool.or_false]; exact decide_eq_false (by omega)) (by omega) (by unfold Builtin.Tuple.tupleTooMany; rw [sizeLine_eq]; exact decide_eq_false (by omega)) (by rw [size_rep, List.size_toArray]; exact out_)) ⟨geta, ?_⟩⟩)
    rw [size_rep]
    exact newTup I (by rw [PyProof.Rows.lm_len_rep_flat, sizeLine_eq]; omega) (rv.rep k.toNat) (q2 one_)
end
section
variable {c : Cz} {ρ ρ1 ρ2 ρ3 : List Sl} {ta tb te tx : TE} {d d1 d2 d3 : PyData} {T : Tm} {H H' : Hp} {σ : L2.St}
theorem ed_repT {α : Type} {f : α → PyData} {l : List α} {k : Int} (ha : Ed c ρ ta (.tuple (l.map f)) ρ1) (hb : Ed c ρ1 tb (.int k) ρ2) (hl : l ≠ [] ∧ l.length ≤ 1000) (hk : 1 ≤ k ∧ k ≤ 1000) : Ed c ρ (tOp (rRepF c.K) ta tb) (.tuple ((List.replicate k.toNat l).flatten.map f)) ρ2 :=
  ed_op ha hb fun T σ H x y W hx hy Q q => by
    obtain ⟨a, xs, rfl, hs, h2⟩ := dp_tup hx
    have hn := dpa_length h2
    rw [List.length_map] at hn
    have e : (List.replicate k.toNat l).flatten.map f = (List.replicate k.toNat (l.map f)).flatten := by rw [List.map_flatten, List.map_replicate]
    refine ⟨a, k, xs, rfl, dp_int hy, (ex_p (hide_ex _ _) hs).sq, fun z => hl.1 (List.eq_nil_of_length_eq_zero (by rw [← hn, z]; rfl)), hk.1, hk.2, by omega, fun h1 => ?_, fun _ p o z hp => ?_⟩
    · subst h1
      have e1 : (List.replicate (1 : Int).toNat l).flatten = l := by show ([l]).flatten = l; simp
      rw [e1] at q
      exact q _ H (W.push hx)
    · rw [e] at q
      exact q _ _ (tup_new W (dpa_rep h2 _) z hp)
theorem ed_notX {b : Bool} (h : Ed c ρ te d ρ1) (e : truD d = b) (ok : truOk d = true) : Ed c ρ (tNotT c.K te) (.bool (!b)) ρ1 := fun T σ H W Q q => h T σ H W _ fun v H1 W1 => by
  subst e
  exact ⟨_, tru_dp (dpm (hide_ex _ _) W1.dp) ok, q _ H1 (W1.pop.push (.bl _))⟩
theorem ed_notL {α : Type} {f : α → PyData} {l : List α} (h : Ed c ρ te (.list (l.map f)) ρ1) : Ed c ρ (tNotT c.K te) (.bool (!(!l.isEmpty))) ρ1 := ed_notX h (by show (!(l.map f).isEmpty) = _; cases l <;> rfl) rfl
theorem ed_notTu {α : Type} {f : α → PyData} {l : List α} (h : Ed c ρ te (.tuple (l.map f)) ρ1) : Ed c ρ (tNotT c.K te) (.bool (!(!l.isEmpty))) ρ1 := ed_notX h (by show (!(l.map f).isEmpty) = _; cases l <;> rfl) rfl
theorem s_par3W {α β γ : Type} {f : α → PyData} {g : β → PyData} {e : γ → PyData} {P : α → Prop} {P2 : β → Prop} {P3 : γ → Prop} {te1 te2 te3 : TE} {nx bk ct : L2.St → Hp → Prop} {rt : VK} {i j l : Nat} (h : Ew c ρ te1 f P ρ1) (h2 : Ew c ρ1 te2 g P2 ρ2) (h3 : Ew c ρ2 te3 e P3 ρ3)
    (k : ∀ x y z, P x → P2 y → P3 z → Sk c T (((ρ3.set i (.da (f x))).set j (.da (g y))).set l (.da (e z))) nx) : Ss c T ρ (tPar3 i j l (tCons te1 (tCons te2 (tCons te3 tNil)))) ⟨nx, rt, bk, ct⟩ := fun σ H W =>
  h T σ H W _ fun x u H1 px W1 => h2 _ σ H1 W1 _ fun y v H2 py W2 => h3 _ σ H2 W2 _ fun z w H3 pz W3 => by
    refine ⟨u, v, w, rfl, ?_⟩
    have W4 := W3.setD i W3.pop.pop.dp
    have W5 := W4.setD j W4.pop.dp
    have W6 := W5.setD l W5.dp
    exact k x y z px py pz _ _ W6.pop.pop.pop
end
end Nz

/-! sorted(a list of data) -/
namespace Nz
open PySem PySem.Spec PyProof.Rows L2 RZ PySem.W
section
variable {β : Type}
def rSortX (K : PySem.W.Frag) (enc : β → PyData) : List V → Hp → VK → Prop := fun vs H Q => ∃ (a : Addr) (xs : List V) (bs : List β) (R : V → β → Prop), vs = [.ref a] ∧ SqL K H a xs ∧ EachIs R xs bs ∧ (∀ v b, R v b → Dp K H v (enc b)) ∧
  AllAlike (bs.map enc) ∧ Sortable (bs.map enc) ∧ (∀ b ∈ bs, (enc b).depth ≤ 50) ∧ ∀ (ys : List V) (p : Addr), EachIs R ys (bs.mergeSort (dataLe false enc)) → H p = none → Q (.ref p) (upd H p (.lst ys))
theorem each_vals {X : Cx} {pins : List (Addr × Obj)} {σ : L2.St} {H : Hp} {s : Shared} (I : Inv X pins σ H s) {enc : β → PyData} {R : V → β → Prop} (hR : ∀ v b, R v b → Dp X.K H v (enc b)) :
    ∀ {xs : List V} {us : List Value} {bs : List β}, Vals xs us → EachIs R xs bs → EachIs (fun u b => ∃ x, RelV x u ∧ R x b) us bs ∧ EachIs (fun u b => ∃ as, Reads s.heap u (enc b) as) us bs
  | _, _, _, .nil, .nil => ⟨.nil, .nil⟩
  | _, _, _, .cons r rs, .cons h hs => by
    obtain ⟨i1, i2⟩ := each_vals I hR rs hs
    obtain ⟨as, rd⟩ := Dp.reads I _ _ _ (hR _ _ h) r
    exact ⟨.cons ⟨_, r, h⟩ i1, .cons ⟨as, rd⟩ i2⟩
theorem each_out {R : V → β → Prop} : ∀ {us : List Value} {bs : List β}, EachIs (fun u b => ∃ x, RelV x u ∧ R x b) us bs → ∃ ys : List V, Vals ys us ∧ EachIs R ys bs
  | _, _, .nil => ⟨[], .nil, .nil⟩
  | _, _, .cons ⟨x, r, h⟩ t => by
    obtain ⟨ys, a, b⟩ := each_out t
    exact ⟨x :: ys, .cons r a, .cons h b⟩
theorem cr_sortedX {X : Cx} {enc : β → PyData} (hu : X.A.units + 64 < cLine) : CallR X (.builtin "sorted") (rSortX X.K enc) := by
  intro pins s σ H vs us Q I r h
  obtain ⟨a, xs, bs, R, rfl, hs, he, hR, hal, hk, hd, q⟩ := h
  obtain ⟨its, rv, hl, hz⟩ := I.list hs
  rw [Vals.ref1 r]
  obtain ⟨e1, e2⟩ := each_vals I hR rv he
  have hlen := he.length
  refine sorted_data hl.isList e1 e2 hal hk (by rw [← hlen]; exact hz) (fun b hb => by have := hd b hb; omega) fun out hl2 ho => ?_
  obtain ⟨ys, r2, e3⟩ := each_out ho
  obtain ⟨ep, he'⟩ := PyProof.Rows.sortedAll_at s.heap its out.toArray
  exact ⟨.ref _, upd H (s.heap.objs.size + 1) (.lst ys), I.laid (t' := s.toks) (fun _ _ => PyProof.Rows.sortedAll_old) (Nat.le_succ _) ⟨by rw [r2.length, hl2, ← hlen]; exact hz, out, ep, r2, he'⟩, rfl, q ys _ e3 (I.hok.fresh (Nat.le_succ _))⟩
end
def sortX {β : Type} (enc : β → PyData) (l : List β) : List β := l.mergeSort (dataLe false enc)
section
variable {c : Cz} {ρ ρ1 ρ2 ρ3 : List Sl} {te : TE} {β : Type} {enc : β → PyData}
theorem each_dz {K : PySem.W.Frag} {H : Hp} : ∀ {xs : List V} {bs : List β}, DzAll K H xs (bs.map enc) → EachIs (fun v b => Dz K H v (enc b)) xs bs
  | _, [], h => by cases h; exact .nil
  | _, b :: bs, h => by
    cases h with
    | cons a t => exact .cons a (each_dz t)
theorem dz_each {K : PySem.W.Frag} {H : Hp} : ∀ {xs : List V} {bs : List β}, EachIs (fun v b => Dz K H v (enc b)) xs bs → DzAll K H xs (bs.map enc)
  | _, _, .nil => .nil
  | _, _, .cons h t => .cons h (dz_each t)
theorem el_sortX {l : List β} (h : Ed c ρ te (.list (l.map enc)) ρ1) (hal : AllAlike (l.map enc)) (hk : Sortable (l.map enc)) (hd : ∀ b ∈ l, (enc b).depth ≤ 50) : EdL c ρ (tCB (rSortX c.K enc) (tCons te tNil)) ((sortX enc l).map enc) ρ1 := fun T σ H W Q q => h T σ H W _ fun v H1 W1 => by
  obtain ⟨a, xs, rfl, hs, h2⟩ := dp_lst W1.dp
  refine ⟨a, xs, l, fun v b => Dz c.K (hide (hid c ρ1) H1) v (enc b), rfl, ex_l (hide_ex _ _) hs, each_dz h2, fun v b hv => dz_dp _ _ (dpm (hide_ex _ _) hv), hal, hk, hd, fun ys p he hp => ?_⟩
  obtain ⟨x1, x2, x3, x4⟩ := el_new W1.pop (dz_each he) hp
  exact q p _ x1 x2 x3 x4
end
theorem sortX_perm {β : Type} (enc : β → PyData) (l : List β) : (sortX enc l).Perm l := List.mergeSort_perm l _
/-- what is ascending already stays so -/
theorem sortX_id {β : Type} {enc : β → PyData} {l : List β} (h : l.Pairwise fun a b => dataLe false enc a b = true) : sortX enc l = l := List.mergeSort_of_pairwise h
end Nz

/-! a op b op c op d; extend, pop; list(range) -/
namespace Nz
open PySem PySem.Spec PyProof.Rows L2 RZ
def tChain3 (r r' r'' : R2) (ta tb tc td : TE) : TE := fun σ H Q => ta σ H fun x H1 => tb σ H1 fun y H2 => r x y H2 fun z H3 => ∃ k, z = .bl k ∧
  (if k = true then tc σ H3 fun y' H4 => r' y y' H4 fun z' H5 => ∃ k', z' = .bl k' ∧ (if k' = true then td σ H5 fun w' H6 => r'' y' w' H6 Q else Q (.bl false) H5) else Q (.bl false) H3)
section
variable {X : Cx} {a b c d : Expr} {ta tb tc td : TE} {pos : Pos}
theorem pe_chain3 {op op' op'' : CmpOp} {r r' r'' : R2} (ho : OpR X (compareOp op) r) (ho' : OpR X (compareOp op') r') (ho'' : OpR X (compareOp op'') r'') (ha : PE X a ta) (hb : PE X b tb) (hc : PE X c tc) (hd : PE X d td)
    (hm : lastMarks [op, op', op''] [b, c, d] = false := by with_unfolding_all rfl) : PE X (.Compare a [op, op', op''] [b, c, d] pos) (tChain3 r r' r'' ta tb tc td) := by
  refine ⟨fun pins s σ H Q I h => ?_⟩
  refine Compare_chain (thn (ha.run pins s σ H _ I h) fun v s1 ⟨x, H1, I1, r1, q1⟩ => chain_link (thn (hb.run pins s1 σ H1 _ I1 q1) fun u s2 ⟨y, H2, I2, r2, q2⟩ =>
    thn (ho pins s2 σ H2 x y v u _ I2 r1 r2 q2) fun e s3 ⟨z, H3, I3, r3, k, ek, q3⟩ => ?_)) hm
  subst ek; cases r3
  refine wpAny_truthy_bool ?_
  cases k with
  | false => exact ite_ff ⟨.bl false, H3, I3, rfl, q3⟩
  | true =>
    refine ite_tt (chain_link (thn (hc.run pins s3 σ H3 _ I3 q3) fun u' s4 ⟨y', H4, I4, r4, q4⟩ => thn (ho' pins s4 σ H4 y y' u u' _ I4 r2 r4 q4) fun e' s5 ⟨z', H5, I5, r5, k', ek', q5⟩ => ?_))
    subst ek'; cases r5
    refine wpAny_truthy_bool ?_
    cases k' with
    | false => exact ite_ff ⟨.bl false, H5, I5, rfl, q5⟩
    | true => exact ite_tt (chain_last (thn (hd.run pins s5 σ H5 _ I5 q5) fun w' s6 ⟨z', H6, I6, r6, q6⟩ => ho'' pins s6 σ H6 y' z' u' w' Q I6 r4 r6 q6))
theorem pt_chain3 {op op' op'' : CmpOp} {r r' r'' : R2} (ho : OpR X (compareOp op) r) (ho' : OpR X (compareOp op') r') (ho'' : OpR X (compareOp op'') r'') (ha : PE X a ta) (hb : PE X b tb) (hc : PE X c tc) (hd : PE X d td)
    (hm : lastMarks [op, op', op''] [b, c, d] = false := by with_unfolding_all rfl) : PT X (.Compare a [op, op', op''] [b, c, d] pos) (tTest (tChain3 r r' r'' ta tb tc td)) := by
  refine ⟨fun pins s σ H Q I h => ?_⟩
  refine isTrue_chain (thn (ha.run pins s σ H _ I h) fun v s1 ⟨x, H1, I1, r1, q1⟩ => test_link (thn (hb.run pins s1 σ H1 _ I1 q1) fun u s2 ⟨y, H2, I2, r2, q2⟩ =>
    thn (ho pins s2 σ H2 x y v u _ I2 r1 r2 q2) fun e s3 ⟨z, H3, I3, r3, k, ek, q3⟩ => ?_)) hm
  subst ek; cases r3
  refine wpAny_truthy_bool ?_
  cases k with
  | false =>
    obtain ⟨j, ej, q'⟩ := q3
    cases ej
    exact ite_ff ⟨H3, I3, q'⟩
  | true =>
    refine ite_tt (test_link (thn (hc.run pins s3 σ H3 _ I3 q3) fun u' s4 ⟨y', H4, I4, r4, q4⟩ => thn (ho' pins s4 σ H4 y y' u u' _ I4 r2 r4 q4) fun e' s5 ⟨z', H5, I5, r5, k', ek', q5⟩ => ?_))
    subst ek'; cases r5
    refine wpAny_truthy_bool ?_
    cases k' with
    | false =>
      obtain ⟨j, ej, q'⟩ := q5
      cases ej
      exact ite_ff ⟨H5, I5, q'⟩
    | true =>
      refine ite_tt (test_last (thn (hd.run pins s5 σ H5 _ I5 q5) fun w' s6 ⟨z', H6, I6, r6, q6⟩ => thn (ho'' pins s6 σ H6 y' z' u' w' _ I6 r4 r6 q6) fun d' s7 ⟨z2, H7, I7, r7, k2, e2, q7⟩ => ?_))
      subst e2; cases r7
      exact wpAny_truthy_bool ⟨H7, I7, q7⟩
end
section
variable {c : Cz} {ρ ρ1 ρ2 ρ3 ρ4 : List Sl} {ta tb tc td te : TE} {d d1 d2 d3 : PyData} {T : Tm} {H H' : Hp} {σ : L2.St}
variable {D : Ends} {nx bk ct : L2.St → Hp → Prop} {rt : VK}
theorem ed_chain3 {f g h : Int → Int → Bool} {i j k l : Int} (ha : Ed c ρ ta (.int i) ρ1) (hb : Ed c ρ1 tb (.int j) ρ2) (hc : Ed c ρ2 tc (.int k) ρ2) (hd : Ed c ρ2 td (.int l) ρ2) :
    Ed c ρ (tChain3 (rI0 fun i j => .bl (f i j)) (rI0 fun i j => .bl (g i j)) (rI0 fun i j => .bl (h i j)) ta tb tc td) (.bool (f i j && (g j k && h k l))) ρ2 := fun T σ H W Q q => ha T σ H W _ fun v H1 W1 => hb _ σ H1 W1 _ fun w H2 W2 =>
  ⟨i, j, dp_int W2.pop.dp, dp_int W2.dp, f i j, rfl, by
    cases e : f i j with
    | false =>
      rw [e, Bool.false_and] at q
      exact q _ H2 (W2.pop.pop.push (.bl _))
    | true =>
      rw [e, Bool.true_and] at q
      refine hc _ σ H2 W2 _ fun z H3 W3 => ⟨j, k, dp_int W3.pop.dp, dp_int W3.dp, g j k, rfl, ?_⟩
      cases e2 : g j k with
      | false =>
        rw [e2, Bool.false_and] at q
        exact q _ H3 (W3.pop.pop.pop.push (.bl _))
      | true =>
        rw [e2, Bool.true_and] at q
        exact hd _ σ H3 W3 _ fun z' H4 W4 => ⟨k, l, dp_int W4.pop.dp, dp_int W4.dp, q _ H4 (W4.pop.pop.pop.pop.push (.bl _))⟩⟩
/-- x.extend(a new list) -/
theorem s_extend {i : Nat} {l : Bool} {a : Addr} {ds es : List PyData} (h : EdL c ρ te es ρ1) (h0 : ∃ l ds, ρ[i]? = some (.mu l a (.lst ds))) (ha : ρ1[i]? = some (.mu l a (.lst ds))) (hz : ds.length + es.length ≤ 100000)
    (k : Sk c T (ρ1.set i (.mu l a (.lst (ds ++ es)))) nx) : Ss c T ρ (tDrop (tBM c.K "list" rExtend (tVar i) (tCons te tNil))) ⟨nx, rt, bk, ct⟩ := fun σ H W => by
  obtain ⟨l0, o0, h0⟩ := h0
  obtain ⟨e0, e2, e3⟩ := W.ok i _ h0
  obtain ⟨ys, e7, _⟩ := e3
  have ty : tyV c.K "list" (.ref a) H := .inl ⟨rfl, ys, sq_of e7⟩
  refine ⟨.ref a, e0, ty, h T σ H W _ fun p H1 hB hn hm W0 => ?_⟩
  have W1 := W0.unhide W.sub
  obtain ⟨zs, g1, g2⟩ := hm
  obtain ⟨_, _, xs, e4, e5⟩ := W1.ok i _ ha
  have hm : a ∈ hid c ρ1 := List.mem_append_right _ (mem_muts.mpr ⟨i, l, _, ha⟩)
  have e9 : Ex (hide (p :: hid c ρ1) H1) (hide (hid c ρ1) H1) := hide_mono fun b o n z => ⟨fun m => n (List.mem_cons_of_mem _ m), z⟩
  refine ⟨a, p, xs, zs, rfl, rfl, e4, g1, by rw [dpa_length e5, dpa_length g2]; exact Nat.le_trans hz (by decide), ?_⟩
  refine k _ _ (W1.updM ha ⟨xs ++ zs, upd_same, ?_⟩)
  have e6 : Ex (hide (hid c ρ1) H1) (hide (hid c ρ1) (upd H1 a (.lst (xs ++ zs)))) := upd_hid hm
  exact dpam e6 (dpa_append e5 (dpam e9 g2))
theorem dpa_erase {K : PySem.W.Frag} {H : Hp} : ∀ {ds : List PyData} {xs : List V} (n : Nat), DzAll K H xs ds → DzAll K H (xs.eraseIdx n) (ds.eraseIdx n)
  | [], _, _, h => by cases h; exact .nil
  | _ :: _, _, 0, h => by
    cases h with
    | cons a b => exact b
  | _ :: _, _, n + 1, h => by
    cases h with
    | cons a b => exact .cons a (dpa_erase n b)
theorem erase_map {α β : Type} (f : α → β) (l : List α) (n : Nat) : (l.eraseIdx n).map f = (l.map f).eraseIdx n := by
  rw [List.eraseIdx_eq_take_drop_succ, List.map_append, List.map_take, List.map_drop, ← List.eraseIdx_eq_take_drop_succ]
/-- x.pop(j) -/
theorem ed_popAt {i : Nat} {l : Bool} {a : Addr} {α : Type} {f : α → PyData} {xs : List α} {x : α} {j : Int} {n : Nat} (hj : Ed c ρ tb (.int j) ρ1) (h0 : ∃ l ds, ρ[i]? = some (.mu l a (.lst ds))) (ha : ρ1[i]? = some (.mu l a (.lst (xs.map f)))) (hn : j = (n : Int)) (hx : xs[n]? = some x) (hz : xs.length ≤ 100000) :
    Ed c ρ (tBM c.K "list" rPopAt (tVar i) (tCons tb tNil)) (f x) (ρ1.set i (.mu l a (.lst ((xs.eraseIdx n).map f)))) := fun T σ H W Q q => by
  obtain ⟨l0, o0, h0⟩ := h0
  obtain ⟨e0, e2, e3⟩ := W.ok i _ h0
  obtain ⟨ys, e7, _⟩ := e3
  have ty : tyV c.K "list" (.ref a) H := .inl ⟨rfl, ys, sq_of e7⟩
  refine ⟨.ref a, e0, ty, hj T σ H W _ fun v H1 W1 => ?_⟩
  obtain ⟨_, _, zs, e4, e5⟩ := W1.ok i _ ha
  have hx2 : (xs.map f)[n]? = some (f x) := by rw [List.getElem?_map, hx]; rfl
  obtain ⟨y, e6, e8⟩ := dpa_get e5 hx2
  have hlt := (List.getElem?_eq_some_iff.mp hx).1
  have hl := dpa_length e5
  rw [List.length_map] at hl
  subst hn
  refine ⟨a, zs, (n : Int), n, y, rfl, by rw [dp_int W1.dp], e4, by omega, by omega, ?_, e6, ?_⟩
  · unfold seqIndex?
    dsimp only
    rw [if_neg (show ¬ ((n : Int) < 0) by omega), if_pos (by simp; omega)]; rfl
  · have hm : a ∈ hid c ρ1 := List.mem_append_right _ (mem_muts.mpr ⟨i, l, _, ha⟩)
    have e9 : Ex (hide (hid c ρ1) H1) (hide (hid c ρ1) (upd H1 a (.lst (zs.eraseIdx n)))) := upd_hid hm
    have W2 := W1.pop.updM ha (o' := .lst ((xs.eraseIdx n).map f)) (u := .lst (zs.eraseIdx n)) ⟨_, upd_same, by rw [erase_map]; exact dpam e9 (dpa_erase n e5)⟩
    refine q y _ (W2.push ?_)
    refine dpm (hide_mono fun b o nb z => ⟨fun m => nb ?_, z⟩) (dpm e9 e8)
    rcases List.mem_append.mp m with m | m
    · exact List.mem_append_left _ m
    · obtain ⟨k, m', u, e⟩ := mem_muts.mp m
      rcases get_set e with ⟨_, _, e⟩ | ⟨_, e⟩
      · cases e; exact hm
      · exact List.mem_append_right _ (mem_muts.mpr ⟨k, m', u, e⟩)
end
section
variable {X : Cx}
def rRng1 : List V → Hp → VK → Prop := fun vs H Q => ∃ n, vs = [V.int n] ∧ ∀ p, H p = none → Q (.ref p) (upd H p (.rng 0 n))
def rRng2 : List V → Hp → VK → Prop := fun vs H Q => ∃ i j, vs = [V.int i, V.int j] ∧ ∀ p, H p = none → Q (.ref p) (upd H p (.rng i j))
theorem cr_rng1 : CallR X (.type "range") rRng1 := by
  intro pins s σ H vs us Q I r h
  obtain ⟨n, rfl, q⟩ := h
  obtain ⟨u, rfl, rn⟩ := vals1 r
  obtain ⟨t, rfl⟩ := rn
  exact call_range_1 ⟨.ref s.heap.objs.size, upd H s.heap.objs.size (.rng 0 n), I.laid (t' := s.toks + 1 + 1) (fun b o e => Heap.get?_push_of_some _ e) (Nat.le_refl _) ⟨s.toks, t, s.toks + 1, Heap.get?_push_size _ rfl⟩, rfl, q _ (I.hok.fresh (Nat.le_refl _))⟩
theorem cr_rng2 : CallR X (.type "range") rRng2 := cr_range2
def rListRng : List V → Hp → VK → Prop := fun xs H Q => ∃ a lo hi, xs = [.ref a] ∧ H a = some (.rng lo hi) ∧ -1000000 ≤ lo ∧ lo ≤ 1000000 ∧ -1000000 ≤ hi ∧ hi ≤ 1000000 ∧ ∀ p, H p = none → Q (.ref p) (upd H p (.lst ((rngX lo hi).map V.int)))
theorem cr_listRng (hc : X.calm = true) : CallR X (.type "list") rListRng := by
  intro pins s σ H xs us Q I r h
  obtain ⟨a, lo, hi, rfl, hr, b1, b2, b3, b4, q⟩ := h
  rw [Vals.ref1 r]
  obtain ⟨t, u, v, hget⟩ : ∃ t u v, s.heap.get? a = some { cls := .type "range", data := .fields #[.int lo t, .int hi u, .int 1 v] } := I.hok a _ hr
  have size_ : Builtin.Range.rangeSize lo hi 1 = ((hi - lo).toNat : Nat) := by
    unfold Builtin.Range.rangeSize
    rw [if_pos (by decide)]
    split <;> omega
  refine call_list_range (n := (hi - lo).toNat) (I.ok.hd hc) hget ?_ size_ (by omega) fun h' tk acc' c' keep hS hacc => ?_
  · unfold Builtin.Range.small
    have fit : ∀ x : Int, -2000000 ≤ x → x ≤ 2000000 → Builtin.Range.rangeFitsLong x = true := fun x h1 h2 => by
      unfold Builtin.Range.rangeFitsLong; simp; omega
    have z : Builtin.Range.rangeSize lo hi 1 ≤ 2000000 ∧ 0 ≤ Builtin.Range.rangeSize lo hi 1 := by rw [size_]; omega
    simp
    exact ⟨⟨⟨⟨fit _ (by omega) (by omega), fit _ (by omega) (by omega)⟩, fit _ (by decide) (by decide)⟩, fit _ (by omega) z.1⟩, .inr (fit _ (by omega) (by omega))⟩
  · obtain ⟨h1, h2⟩ := hacc
    have hv : ∀ (ns : List Int) (vs : List Value), vs.length = ns.length → (∀ (j : Nat) (v : Value), vs[j]? = some v → ∃ t k, ns[j]? = some k ∧ v = .int k t) → Vals (ns.map V.int) vs := by
      intro ns
      induction ns with
      | nil => intro vs hl _; cases vs with
        | nil => exact .nil
        | cons _ _ => simp at hl
      | cons n ns ih =>
        intro vs hl hj
        cases vs with
        | nil => simp at hl
        | cons w ws =>
          obtain ⟨t, k, e1, e2⟩ := hj 0 w rfl
          cases e1
          exact .cons ⟨t, e2⟩ (ih ws (by simpa using hl) fun j v e => by obtain ⟨t, k, a, b⟩ := hj (j + 1) v (by simpa using e); exact ⟨t, k, by simpa using a, b⟩)
    have ln : (rngX lo hi).length = (hi - lo).toNat := by unfold rngX; rw [List.length_map, List.length_range]
    have key : Vals ((rngX lo hi).map V.int) acc'.toList := hv _ _ (by rw [Array.length_toList, h1, ln]) fun j w e => by
      rw [Array.getElem?_toList] at e
      obtain ⟨t, et⟩ := h2 j w e
      have hj : j < (hi - lo).toNat := by rw [← h1]; exact (Array.getElem?_eq_some_iff.mp e).1
      refine ⟨t, lo + (j : Int), ?_, by rw [et, Int.mul_one]⟩
      unfold rngX
      rw [List.getElem?_map, List.getElem?_range hj]; rfl
    exact ⟨.ref _, upd H s.heap.objs.size (.lst ((rngX lo hi).map V.int)), I.laid (t' := tk) keep (Nat.le_refl _) (show ObjOk X.prog X.w _ h' _ (.lst _) from ⟨by rw [List.length_map, ln, sizeLine_eq]; omega, acc'.toList, c', key, hS⟩), rfl, q _ (I.hok.fresh (Nat.le_refl _))⟩
end
section
variable {c : Cz} {ρ ρ1 ρ2 : List Sl} {ta tb : TE}
/-- list(range(n)), list(range(lo, hi)) -/
theorem el_listRng1 {n : Int} (h : Ed c ρ ta (.int n) ρ1) (hn : -1000000 ≤ n ∧ n ≤ 1000000) : EdL c ρ (tCB rListRng (tCons (tCB rRng1 (tCons ta tNil)) tNil)) ((rngX 0 n).map .int) ρ1 := fun T σ H W Q q => h T σ H W _ fun v H1 W1 =>
  ⟨n, by rw [dp_int W1.dp], fun p hp => ⟨p, 0, n, rfl, upd_same, by omega, by omega, by omega, by omega, fun r hr => by
    obtain ⟨x1, x2, x3, x4⟩ := el_new (W1.pop.grow (Ex.new (o := .rng 0 n) hp)) (dpa_ints (rngX 0 n)) hr
    exact q r _ x1 x2 x3 x4⟩⟩
theorem el_listRng2 {lo n : Int} (h : Ed c ρ ta (.int lo) ρ1) (h2 : Ed c ρ1 tb (.int n) ρ2) (hl : -1000000 ≤ lo ∧ lo ≤ 1000000) (hn : -1000000 ≤ n ∧ n ≤ 1000000) : EdL c ρ (tCB rListRng (tCons (tCB rRng2 (tCons ta (tCons tb tNil))) tNil)) ((rngX lo n).map .int) ρ2 := fun T σ H W Q q => h T σ H W _ fun v H1 W1 => h2 _ σ H1 W1 _ fun w H2 W2 =>
  ⟨lo, n, by rw [dp_int W2.pop.dp, dp_int W2.dp], fun p hp => ⟨p, lo, n, rfl, upd_same, by omega, by omega, by omega, by omega, fun r hr => by
    obtain ⟨x1, x2, x3, x4⟩ := el_new (W2.pop.pop.grow (Ex.new (o := .rng lo n) hp)) (dpa_ints (rngX lo n)) hr
    exact q r _ x1 x2 x3 x4⟩⟩
end
section
variable {c : Cz} {ρ ρ1 ρ2 : List Sl} {ta tb te : TE}
/-- [e for x in xs if a test that draws] -/
theorem el_lcF {γ δ : Type} {wi : TI} {g : TG} {tt : TT} {vs : List Nat} {xs : List γ} {ea : γ → Itm} {eb : δ → PyData} {fb : γ → δ} {bp : γ → Bool → Prop} (h : Ei c ρ wi (xs.map ea) ρ1) (hsz : xs.length ≤ 100000) (hvs : ∀ j ∈ vs, ρ1[j]? = some .no)
    (turn : ∀ (S : List Addr) (B : Hp) (x : γ), x ∈ xs → ∃ ρa, Nz.wipeS ρa vs = ρ1 ∧ Eg (c.at S B) g (ea x) ρ1 ρa vs ∧ Ewt (c.at S B) ρa tt (bp x) ρa ∧ Ed (c.at S B) ρa te (eb (fb x)) ρa) :
    EwL c ρ (tLc wi g tt te vs) (fun l : List δ => l.map eb) (fun l => l.Sublist (xs.map fb)) ρ1 := fun T σ H W Q q => by
  refine el_lcN (c := c) (tt := tt) (te := te) (vs := vs) (its := fun _ : Unit => xs.map ea) (eiw_det (x := ()) (its := fun _ => xs.map ea) h) (fun _ i acc => ∃ l : List δ, acc = l.map eb ∧ l.Sublist ((xs.take i).map fb)) (fun _ _ => ⟨[], rfl, by rw [List.take_zero]; exact .slnil⟩) (fun _ _ => by rw [List.length_map]; exact hsz) hvs
    (fun S B _ i d acc _ hd ⟨l, hl, hf⟩ => ?_) T σ H W Q (fun l p H' ⟨_, _, l', e, hf⟩ h1 h2 h3 W1 => ?_)
  · rw [List.getElem?_map] at hd
    cases hx : xs[i]? with
    | none => rw [hx] at hd; cases hd
    | some x =>
      rw [hx] at hd
      have hd : ea x = d := Option.some.inj hd
      subst hd
      obtain ⟨ρa, hw, g1, g2, g3⟩ := turn S B x (List.mem_of_getElem? hx)
      have e : (xs.take (i + 1)).map fb = (xs.take i).map fb ++ [fb x] := by rw [List.take_add_one, hx, List.map_append]; rfl
      refine ⟨ρa, bp x, hw, g1, g2, fun _ => ew_as (f := eb) (ew_det (f := eb) (x := fb x) g3) fun y hy => ⟨eb (fb x), ⟨l ++ [fb x], by rw [hl, List.map_append]; rfl, ?_⟩, by rw [hy]⟩, fun _ => ⟨l, hl, ?_⟩⟩
      · rw [e]; exact hf.append (List.Sublist.refl _)
      · rw [e]; exact hf.trans (List.sublist_append_left _ _)
  · subst e
    rw [List.length_map, List.take_length] at hf
    exact q l' p H' hf h1 h2 h3 W1
/-! what may be None -/
theorem isN_eO {α : Type} {f : α → PyData} (hf : ∀ a, isNone (f a) = false) (x : Option α) : isNone (eO f x) = x.isNone := by
  cases x with
  | none => rfl
  | some a => exact hf a
theorem eO_get {α : Type} [Inhabited α] {f : α → PyData} {x : Option α} (h : x.isSome = true) : eO f x = f (x.getD default) := by
  cases x with
  | none => cases h
  | some a => rfl
theorem some_a {α : Type} {x : Option α} (h : (!x.isNone) = true) : x.isSome = true := by cases x <;> simp_all
theorem some_b {α : Type} {x : Option α} (h : x.isNone = false) : x.isSome = true := by cases x <;> simp_all
end

/-! ### an open pair as the target of a comprehension -/
theorem pg_tupB {X : Cx} {K : PySem.W.Frag} {es : List Expr} {k : Nat} {t : TGs} {n : Nat} {pos : Pos} (hK : X.K = K) (hc : X.calm = true) (h : PGs X es t)
    (hn : (assignEach es X.env).length = n := by rfl) (hst : (assignEach es X.env).findIdx? (·.1) = none := by rfl) : PG X (.Tuple es k pos) (gTup K n t) := by
  subst hK
  exact pg_tup hc h hn hst

/-! ### for at, x in enumerate(l), where l may change (but not in this for) -/
section
variable {c : Cz} {ρ ρ1 : List Sl} {T : Tm} {g : TG} {nx : L2.St → Hp → Prop} {rt : V → Hp → Prop} {bk ct : L2.St → Hp → Prop}
theorem s_forEM {α : Type} {f : α → PyData} {j : Nat} {l : Bool} {a : Addr} {tbd : TS} (xs : List α) (ha : ρ[j]? = some (.mu l a (.lst (xs.map f)))) (I : Nat → List Sl) (h0 : Le ρ (I 0)) (hI : ∀ i, (I i)[j]? = some (.mu l a (.lst (xs.map f))))
    (hs : ∀ (T' : Tm), (∀ p ∈ T, p ∈ T') → ∀ (i : Nat) (x : α × Nat), xs.zipIdx[i]? = some x → ∃ ρa ws, Eg c g (Itm.soft [PyData.int (x.2 : Int), f x.1]) (I i) ρa ws ∧ Ss c T' ρa tbd ⟨fun σ H => Wd c T' H σ (I (i + 1)), rt, nx, fun σ H => Wd c T' H σ (I (i + 1))⟩)
    (hd : Sk c T (I xs.zipIdx.length) nx) : Ss c T ρ (tFor (iEnum c.K (tCons (tVar j) tNil)) g tbd) ⟨nx, rt, bk, ct⟩ := fun σ H W => by
  obtain ⟨e0, _, ys, e1, e2⟩ := W.ok j _ ha
  refine ⟨.ref a, e0, a, ys, rfl, sq_of e1, fun i m σ' H' => i + m = xs.zipIdx.length ∧ Wd c T H' σ' (I i), ⟨xs.zipIdx.length, by omega, W.le h0⟩, fun i m σ' H' ⟨hm, W2⟩ => ?_⟩
  obtain ⟨_, _, zs, h1, h2⟩ := W2.ok j _ (hI i)
  have hl := dpa_length h2
  rw [List.length_map] at hl
  have hs2 : SqL c.K H' a zs := sq_of h1
  rw [List.length_zipIdx] at hm
  by_cases hi : i < xs.length
  · obtain ⟨x, hx, dx⟩ := dpa_get h2 (d := f xs[i]) (i := i) (by rw [List.getElem?_map, List.getElem?_eq_getElem hi]; rfl)
    refine .inr ⟨⟨zs, x, hs2, hx⟩, fun σ3 H3 => Wd c T H3 σ3 (I (i + 1)), fun σ3 H3 h3 => ⟨m - 1, by omega, by rw [List.length_zipIdx]; omega, h3⟩, fun y H3 hy => ?_⟩
    obtain ⟨p, z, rfl, hp, rfl, hy⟩ := hy
    have ez := (hy zs hs2).symm.trans hx
    rw [Option.some.inj ez]
    have W3 := W2.grow (Ex.new (o := .tup [.int (i : Nat), x]) hp)
    have e3 : Ex (hide (hid c (I i)) H') (hide (hid c (I i)) (upd H' p (.tup [.int (i : Nat), x]))) := hide_mono fun a o n h => ⟨n, Ex.new hp a o h⟩
    have hz : xs.zipIdx[i]? = some (xs[i], i) := by rw [List.getElem?_zipIdx, List.getElem?_eq_getElem hi]; simp
    obtain ⟨ρa, ws, g1, g2⟩ := hs T (fun p hp => hp) i _ hz
    exact g1 _ σ' _ _ ⟨p, [.int (i : Nat), x], rfl, .inl (.inl upd_same), rfl, (W3.push (dpm e3 dx)).push (.int _)⟩ _ fun σ4 H4 W4 _ => g2 σ4 H4 W4
  · have ei : i = xs.length := by omega
    subst ei
    refine .inl ⟨⟨zs, hs2, by omega⟩, hd σ' H' ?_⟩
    rw [List.length_zipIdx]; exact W2
end

/-! ### a walk over range(what is drawn); append of what is drawn -/
section
variable {c : Cz} {ρ ρ1 : List Sl} {T : Tm} {gt : TG} {te : TE} {nx : L2.St → Hp → Prop} {rt : V → Hp → Prop} {bk ct : L2.St → Hp → Prop} {α : Type}
theorem s_forNw {β γ : Type} {wi : TI} {tbd : TS} {Pa : γ → Prop} (xs : γ → List α) (ea : α → Itm) (h : Eiw c ρ wi (fun a => (xs a).map ea) Pa ρ1) (P : Nat → β → Prop) (I : Nat → β → List Sl) (b0 : β) (hP : P 0 b0) (h0 : Le ρ1 (I 0 b0))
    (hs : ∀ a, Pa a → ∀ (T' : Tm), (∀ p ∈ T, p ∈ T') → ∀ (i : Nat) (x : α) (b : β), (xs a)[i]? = some x → P i b → ∃ ρa ws, Eg c gt (ea x) (I i b) ρa ws ∧ Ss c T' ρa tbd ⟨fun σ H => ∃ b', P (i + 1) b' ∧ Wd c T' H σ (I (i + 1) b'), rt, nx, fun σ H => ∃ b', P (i + 1) b' ∧ Wd c T' H σ (I (i + 1) b')⟩)
    (hd : ∀ a, Pa a → ∀ b, P (xs a).length b → Sk c T (I (xs a).length b) nx) : Ss c T ρ (tFor wi gt tbd) ⟨nx, rt, bk, ct⟩ := fun σ H W => h T σ H W _ fun a J H1 T1 pa W1 hw => by
  have hs := hs a pa
  have hd := hd a pa
  dsimp only at hw
  generalize hxs : xs a = ys at hs hd hw
  rw [← List.length_map (f := ea)] at hd
  refine ⟨fun i m σ' H' => i + m = (ys.map ea).length ∧ ∃ b, P i b ∧ Wd c (T1 ++ T) H' σ' (I i b), ⟨(ys.map ea).length, by omega, b0, hP, W1.le h0⟩, fun i m σ' H' ⟨hm, b, pb, W2⟩ => ?_⟩
  have hwk := hw c T σ' H' (I i b) rfl W2
  by_cases hi : i < (ys.map ea).length
  · refine .inr ⟨(hwk.1 i hi).1, fun σ3 H3 => ∃ b', P (i + 1) b' ∧ Wd c (T1 ++ T) H3 σ3 (I (i + 1) b'), fun σ3 H3 h3 => ⟨m - 1, by omega, by omega, h3⟩, fun x H3 hy => ?_⟩
    obtain ⟨d, hd', W3⟩ := (hwk.1 i hi).2 x H3 hy
    rw [List.getElem?_map] at hd'
    cases hx : ys[i]? with
    | none => rw [hx] at hd'; cases hd'
    | some z =>
      rw [hx] at hd'
      have hd' : ea z = d := Option.some.inj hd'
      subst hd'
      obtain ⟨ρa, ws, g1, g2⟩ := hs (T1 ++ T) (fun p hp => List.mem_append_right _ hp) i z b hx pb
      exact g1 _ σ' H3 x W3 _ fun σ4 H4 W4 _ => g2 σ4 H4 W4
  · have ei : i = (ys.map ea).length := by omega
    subst ei
    exact .inl ⟨hwk.2 _ (Nat.le_refl _), hd b pb σ' H' (W2.tmps fun p hp => List.mem_append_right _ hp)⟩
theorem s_appendW {i : Nat} {l : Bool} {a : Addr} {ds : List PyData} {f : α → PyData} {P : α → Prop} (h : Ew c ρ te f P ρ1) (h0 : ∃ l ds, ρ[i]? = some (.mu l a (.lst ds))) (ha : ρ1[i]? = some (.mu l a (.lst ds))) (hz : ds.length < 100000) (k : ∀ x, P x → Sk c T (ρ1.set i (.mu l a (.lst (ds ++ [f x])))) nx) :
    Ss c T ρ (tDrop (tBM c.K "list" rAppend (tVar i) (tCons te tNil))) ⟨nx, rt, bk, ct⟩ := fun σ H W => by
  obtain ⟨l0, o0, h0⟩ := h0
  obtain ⟨e0, e2, e3⟩ := W.ok i _ h0
  obtain ⟨ys, e7, _⟩ := e3
  have ty : tyV c.K "list" (.ref a) H := .inl ⟨rfl, ys, sq_of e7⟩
  refine ⟨.ref a, e0, ty, h T σ H W _ fun x v H1 px W1 => ?_⟩
  obtain ⟨_, _, xs, e4, e5⟩ := W1.ok i _ ha
  refine ⟨a, xs, v, rfl, rfl, e4, by rw [dpa_length e5]; exact Nat.lt_of_lt_of_le hz (by decide), ?_⟩
  refine k x px _ _ (W1.pop.updM ha ⟨xs ++ [v], upd_same, ?_⟩)
  have hm : a ∈ hid c ρ1 := List.mem_append_right _ (mem_muts.mpr ⟨i, l, _, ha⟩)
  have e6 : Ex (hide (hid c ρ1) H1) (hide (hid c ρ1) (upd H1 a (.lst (xs ++ [v])))) := hide_mono fun b o nb e => ⟨nb, by rw [upd_ne (fun q => nb (by rw [q]; exact hm))]; exact e⟩
  exact dpam e6 (dpa_append e5 (.cons W1.dp .nil))
end

/-! an if whose branches go on together -/
section
variable {c : Cz} {ρ ρ1 : List Sl} {T : Tm} {t : TT} {ts tu : TS} {D : Ends} {b : Bool}
theorem s_ifJ (ρJ : List Sl) {nx : L2.St → Hp → Prop} {rt : VK} {bk ct : L2.St → Hp → Prop} (h : Et c ρ t b ρ1) (h1 : Sk c T ρJ nx → b = true → Ss c T ρ1 ts ⟨nx, rt, bk, ct⟩) (h2 : Sk c T ρJ nx → b = false → Ss c T ρ1 tu ⟨nx, rt, bk, ct⟩) (k : Sk c T ρJ nx) : Ss c T ρ (tIfS t ts tu) ⟨nx, rt, bk, ct⟩ :=
  s_if h (h1 k) (h2 k)
end
end Nz

/-! a and b, where both draw -/
namespace Nz
open PySem PySem.Spec PyProof.Rows L2 RZ
section
variable {c : Cz} {ρ ρ1 : List Sl} {ta tb : TE}
theorem ew_andV {A B : Bool → Prop} (h1 : Ew c ρ ta PyData.bool A ρ1) (h2 : A true → Ew c ρ1 tb PyData.bool B ρ1) : Ew c ρ (tAndV ta tb) PyData.bool (fun b => (A false ∧ b = false) ∨ (A true ∧ B b)) ρ1 := fun T σ H W Q q => h1 T σ H W _ fun a v H1 pa W1 => ⟨a, dp_bl W1.dp, by
  cases a with
  | true => exact h2 pa T σ H1 W1.pop Q fun b v2 H2 pb W2 => q b v2 H2 (.inr ⟨pa, pb⟩) W2
  | false => exact q false _ H1 (.inl ⟨pa, rfl⟩) (W1.pop.push (.bl _))⟩
end
end Nz

set_option exponentiation.threshold 10000
/-! what several laws need: places, binomials, sizes, quotients -/
namespace Nz
open PySem PySem.Spec PyProof.Rows L2 RZ
theorem rng_get {n i x : Nat} (h : (List.range n)[i]? = some x) : x = i ∧ i < n := by
  have hi := (List.getElem?_eq_some_iff.mp h).1
  rw [List.length_range] at hi
  rw [List.getElem?_range hi] at h
  cases h
  exact ⟨rfl, hi⟩
theorem all_id {α : Type} {l : List α} {f : α → Bool} (h : ∀ x ∈ l, f x = true) : (l.map f).all id = true := by
  rw [List.all_map, List.all_eq_true]
  exact h
theorem inb {n : Nat} {i : Int} (h : 0 ≤ i ∧ i < n) : InB n i := ⟨by omega, h.2⟩
theorem small_lt {a : Int} (h : -(2 ^ 64) < a ∧ a < 2 ^ 64) : a.natAbs < 2 ^ 8999 := Nat.lt_of_lt_of_le (show a.natAbs < 2 ^ 64 by omega) (Nat.pow_le_pow_right (by decide) (by decide))
theorem divI (a b : Int) : Rat.divInt a b = (a : Rat) / (b : Rat) := Rat.divInt_eq_div a b
theorem less_q {a b c d : Rat} (hb : 0 < b) (hd : 0 < d) : (a * d < c * b) ↔ (a / b < c / d) := by
  have e : c / d * b = (c * b) / d := by grind
  rw [Rat.div_lt_iff hb, e, Rat.lt_div_iff hd]
theorem less_i {a b c d : Int} (hb : 0 < b) (hd : 0 < d) : (a * d < c * b) ↔ (qv (a, b) < qv (c, d)) := by
  unfold qv
  rw [divI, divI]
  show _ ↔ (a : Rat) / (b : Rat) < (c : Rat) / (d : Rat)
  rw [← less_q (Rat.intCast_lt_intCast.mpr hb) (Rat.intCast_lt_intCast.mpr hd), ← Rat.intCast_mul, ← Rat.intCast_mul, Rat.intCast_lt_intCast]
theorem less_iff {a b c d : Int} (hb : 0 < b) (hd : 0 < d) : decide (a * d < c * b) = decide (qv (a, b) < qv (c, d)) := by
  have e := less_i (a := a) (c := c) hb hd
  by_cases h : a * d < c * b
  · rw [decide_eq_true h, decide_eq_true (e.mp h)]
  · rw [decide_eq_false h, decide_eq_false fun z => h (e.mpr z)]
theorem pow_succ' (r : Rat) (n : Nat) : r ^ (n + 1) = r ^ n * r := Rat.pow_succ ..
theorem Qk_pow {k : Nat} {r : Rat} (h : Qk k r) : ∀ n, Qk (k * n) (r ^ n)
  | 0 => by rw [Rat.pow_zero]; exact Qk_one _
  | n + 1 => by rw [pow_succ', Nat.mul_succ]; exact Qk_mul (Qk_pow h n) h
theorem Q_gcd (r : Rat) : Nat.gcd r.num.natAbs r.den = 1 := r.reduced
theorem den_pos (r : Rat) : 0 < (qp r).2 := by have := r.den_pos; show (0 : Int) < (r.den : Int); omega
theorem Qk_add {j k : Nat} {r q : Rat} (h1 : Qk j r) (h2 : Qk k q) : Qk (j + k + 1) (r + q) := by
  rw [← q_add]
  have := r.den_nz
  have := q.den_nz
  have a1 : (r.num * (q.den : Int)).natAbs ≤ 2 ^ (j + k) := by rw [Int.natAbs_mul, Nat.pow_add]; exact Nat.mul_le_mul h1.1 h2.2
  have a2 : (q.num * (r.den : Int)).natAbs ≤ 2 ^ (j + k) := by rw [Int.natAbs_mul, Nat.pow_add, Nat.mul_comm]; exact Nat.mul_le_mul h1.2 h2.1
  refine Qk_divInt (Int.mul_pos (by omega) (by omega)) ?_ ?_
  · refine Nat.le_trans (Int.natAbs_add_le _ _) ?_
    rw [Nat.pow_succ]; omega
  · rw [Int.natAbs_mul, Nat.pow_succ, Nat.pow_add]
    have : (r.den : Int).natAbs * (q.den : Int).natAbs ≤ 2 ^ j * 2 ^ k := Nat.mul_le_mul h1.2 h2.2
    omega
theorem Qk_neg {k : Nat} {r : Rat} (h : Qk k r) : Qk k (-r) := ⟨by rw [Rat.neg_num, Int.natAbs_neg]; exact h.1, by rw [Rat.neg_den]; exact h.2⟩
theorem Qk_sub {j k : Nat} {r q : Rat} (h1 : Qk j r) (h2 : Qk k q) : Qk (j + k + 1) (r - q) := by
  rw [Rat.sub_eq_add_neg]; exact Qk_add h1 (Qk_neg h2)
theorem en_get {α : Type} {l : List α} {i : Nat} {p : α × Nat} (h : l.zipIdx[i]? = some p) : p.2 = i ∧ l[i]? = some p.1 ∧ i < l.length := by
  rw [List.getElem?_zipIdx] at h
  cases e : l[i]? with
  | none => rw [e] at h; cases h
  | some a =>
    rw [e] at h
    cases h
    exact ⟨by simp, rfl, (List.getElem?_eq_some_iff.mp e).1⟩
theorem num_pos1 {r : Rat} (h : 0 < r) : 0 < r.num := Rat.intCast_pos.mp h
theorem num_pos2 {r : Rat} (h : 0 < r.num) : 0 < r := by
  rcases (show 0 < r ∨ 0 = r ∨ r < 0 by grind) with q | q | q
  · exact q
  · rw [← q] at h; exact absurd h (by decide)
  · have z : 0 < -r := by grind
    have := num_pos1 z
    rw [Rat.neg_num] at this
    omega
theorem pos_ne {r : Rat} (h : 0 < r) : r ≠ 0 := fun e => by rw [e] at h; exact absurd h (by decide +kernel)
theorem Qk_div {j k : Nat} {r q : Rat} (h1 : Qk j r) (h2 : Qk k q) (h : 0 < q) : Qk (j + k) (r / q) := by
  rw [← q_div]
  have hn := num_pos1 h
  have := r.den_nz
  refine Qk_divInt (Int.mul_pos (by omega) hn) ?_ ?_
  · rw [Int.natAbs_mul, Nat.pow_add]; exact Nat.mul_le_mul h1.1 h2.2
  · rw [Int.natAbs_mul, Nat.pow_add]; exact Nat.mul_le_mul h1.2 h2.1
theorem rngDn_get {a b x : Int} {i : Nat} (h : (rngDn a b)[i]? = some x) : x = a - (i : Int) ∧ (i : Int) < a - b := by
  unfold rngDn at h
  rw [List.getElem?_map] at h
  cases e : (List.range (a - b).toNat)[i]? with
  | none => rw [e] at h; cases h
  | some j =>
    rw [e] at h
    cases h
    have := rng_get e
    exact ⟨by rw [this.1], by omega⟩
theorem ixG_snoc {α : Type} [Inhabited α] (l : List α) (x : α) : ixG (l ++ [x]) (-(1 : Int)) = x := ixG_last l x
theorem qv_1 (k : Int) : qv (k, 1) = (k : Rat) := by unfold qv; rw [divI]; show (k : Rat) / ((1 : Int) : Rat) = _; grind
theorem ixG_mem {α : Type} [Inhabited α] {l : List α} {i : Int} (h : 0 ≤ i ∧ i < l.length) : ixG l i ∈ l := by
  have e : l[i.toNat]? = some (l[i.toNat]'(by omega)) := List.getElem?_eq_getElem (by omega)
  have := ixG_nat e
  rw [show ((i.toNat : Nat) : Int) = i by omega] at this
  rw [this]; exact List.getElem_mem _
theorem ixG_neg {α : Type} [Inhabited α] {l : List α} (h : 0 < l.length) : ixG l (-1) = ixG l ((l.length : Int) - 1) := by
  have e : l[l.length - 1]? = some (l[l.length - 1]'(by omega)) := List.getElem?_eq_getElem (by omega)
  have h1 := ixG_nat e
  rw [show ((l.length - 1 : Nat) : Int) = (l.length : Int) - 1 by omega] at h1
  rw [h1]
  unfold ixG atI ixN
  rw [if_neg (by decide), if_pos (by omega)]
  show (l[((-1 : Int) + l.length).toNat]?).getD _ = _
  rw [show ((-1 : Int) + (l.length : Int)).toNat = l.length - 1 by omega, e]; rfl
theorem Bd_self {k : Nat} {r : Rat} (h : Qk k r) : Bd (2 ^ k) r.den r := ⟨r.den_pos, r.num, h.1, (Rat.num_divInt_den r).symm⟩
theorem Bd_neg {M D : Nat} {r : Rat} (h : Bd M D r) : Bd M D (-r) := by
  obtain ⟨h0, n, hn, e⟩ := h
  exact ⟨h0, -n, by rw [Int.natAbs_neg]; exact hn, by rw [e, Rat.neg_divInt]⟩
theorem Bd_one {D : Nat} (h : 0 < D) : Bd D D 1 := by
  refine ⟨h, (D : Int), Nat.le_of_eq (Int.natAbs_natCast D), ?_⟩
  have z : ((D : Int) : Rat) ≠ 0 := by exact_mod_cast (by omega : D ≠ 0)
  rw [Rat.divInt_eq_div]
  grind
theorem Bd_pow {M D : Nat} {r : Rat} (h : Bd M D r) : ∀ n : Nat, Bd (M ^ n) (D ^ n) (r ^ n)
  | 0 => by rw [Rat.pow_zero, Nat.pow_zero, Nat.pow_zero]; exact Bd_one (by decide)
  | n + 1 => by rw [pow_succ', Nat.pow_succ, Nat.pow_succ]; exact Bd_mul (Bd_pow h n) h
theorem Bd_int {M : Nat} {x : Int} (h : x.natAbs ≤ M) : Bd M 1 (x : Rat) := ⟨by decide, x, h, by rw [Rat.divInt_eq_div]; grind⟩
theorem int_qk {k : Nat} {x : Int} (h : x.natAbs ≤ 2 ^ k) : Qk k (x : Rat) := ⟨by simpa using h, by simpa using Nat.one_le_two_pow⟩
theorem co_cop (r : Rat) : Nat.gcd ((r.den : Int) - r.num).natAbs r.den = 1 := by
  have h := r.reduced
  have e : Int.gcd ((r.den : Int) - r.num) (r.den : Int) = Int.gcd r.num (r.den : Int) := by simp
  exact e.trans h
theorem co_rat (r : Rat) : (⟨(r.den : Int) - r.num, r.den, r.den_nz, co_cop r⟩ : Rat) = 1 - r := by
  rw [Rat.mk_eq_divInt, Rat.divInt_eq_div]
  have z : (((r.den : Int)) : Rat) ≠ 0 := by exact_mod_cast r.den_nz
  have q : r = ((r.num : Int) : Rat) / (((r.den : Int)) : Rat) := by rw [← Rat.divInt_eq_div, Rat.num_divInt_den]
  have c : ((((r.den : Int) - r.num : Int)) : Rat) = (((r.den : Int)) : Rat) - ((r.num : Int) : Rat) := by push_cast; rfl
  rw [c]
  generalize (((r.den : Int)) : Rat) = D at *
  generalize ((r.num : Int) : Rat) = N at *
  rw [q]; clear q c
  grind
theorem co_pair (r : Rat) : [PyData.int ((r.den : Int) - r.num), PyData.int r.den] = [PyData.int (1 - r).num, PyData.int (1 - r).den] := by
  rw [← co_rat]
theorem inv_pair {r : Rat} (h : 0 < r) : [PyData.int r.den, PyData.int r.num] = [PyData.int (r⁻¹).num, PyData.int (r⁻¹).den] := by
  have hn := num_pos1 h
  have e : r⁻¹ = (⟨(r.den : Int), r.num.natAbs, by omega, by rw [Int.natAbs_natCast, Nat.coprime_comm]; exact r.reduced⟩ : Rat) := by
    rw [Rat.mk_eq_divInt, Rat.divInt_eq_div]
    have q : r = ((r.num : Int) : Rat) / (((r.den : Int)) : Rat) := by rw [← Rat.divInt_eq_div, Rat.num_divInt_den]
    have z : (((r.den : Int)) : Rat) ≠ 0 := by exact_mod_cast r.den_nz
    have y : ((r.num : Int) : Rat) ≠ 0 := by exact_mod_cast (by omega : r.num ≠ 0)
    rw [show ((r.num.natAbs : Nat) : Int) = r.num by omega]
    generalize (((r.den : Int)) : Rat) = D at *
    generalize ((r.num : Int) : Rat) = N at *
    rw [q]; clear q
    grind
  rw [e]
  show _ = [PyData.int (r.den : Int), PyData.int ((r.num.natAbs : Nat) : Int)]
  rw [show ((r.num.natAbs : Nat) : Int) = r.num by omega]
theorem mul_mono {a x y : Rat} (ha : 0 ≤ a) (h : x ≤ y) : a * x ≤ a * y := Rat.mul_le_mul_of_nonneg_left h ha
theorem comb_mono {a b x y x' y' : Rat} (ha : 0 ≤ a) (hb : 0 ≤ b) (h : x ≤ x') (h' : y ≤ y') : a * x + b * y ≤ a * x' + b * y' := by
  have h1 := mul_mono ha h
  have h2 := mul_mono hb h'
  grind
def sumTo (f : Nat → Rat) : Nat → Rat
  | 0 => 0
  | n + 1 => sumTo f n + f n
theorem sumTo_eq {f g : Nat → Rat} : ∀ {n : Nat}, (∀ i, i < n → f i = g i) → sumTo f n = sumTo g n
  | 0, _ => rfl
  | n + 1, h => by rw [sumTo, sumTo, sumTo_eq fun i hi => h i (by omega), h n (by omega)]
theorem sumTo_mul {f : Nat → Rat} {x : Rat} : ∀ n : Nat, sumTo (fun i => x * f i) n = x * sumTo f n
  | 0 => by rw [sumTo, sumTo, Rat.mul_zero]
  | n + 1 => by rw [sumTo, sumTo, sumTo_mul n]; grind
theorem sumTo_add {f g : Nat → Rat} : ∀ n : Nat, sumTo (fun i => f i + g i) n = sumTo f n + sumTo g n
  | 0 => by rw [sumTo, sumTo, sumTo]; grind
  | n + 1 => by rw [sumTo, sumTo, sumTo, sumTo_add n]; grind
theorem mul_powQ (x y : Rat) : ∀ n : Nat, (x * y) ^ n = x ^ n * y ^ n
  | 0 => by rw [Rat.pow_zero, Rat.pow_zero, Rat.pow_zero, Rat.mul_one]
  | n + 1 => by rw [pow_succ', pow_succ', pow_succ', mul_powQ x y n]; grind
theorem pow_addQ (x : Rat) (m : Nat) : ∀ n : Nat, x ^ (m + n) = x ^ m * x ^ n
  | 0 => by rw [Rat.pow_zero, Rat.mul_one]; rfl
  | n + 1 => by rw [show m + (n + 1) = (m + n) + 1 by omega, pow_succ', pow_succ', pow_addQ x m n, Rat.mul_assoc]
theorem list_rng {α : Type} [Inhabited α] (l : List α) : (List.range l.length).map (fun (j : Nat) => ixG l (j : Int)) = l := by
  apply List.ext_getElem?
  intro i
  rw [List.getElem?_map]
  by_cases h : i < l.length
  · rw [List.getElem?_range h, List.getElem?_eq_getElem h]
    exact congrArg some (ixG_nat (List.getElem?_eq_getElem h))
  · rw [List.getElem?_eq_none (by simpa using h), List.getElem?_eq_none (by simpa using h)]; rfl
theorem ixG_rng {β : Type} [Inhabited β] {f : Nat → β} {n j : Nat} (h : j < n) : ixG ((List.range n).map f) (j : Int) = f j :=
  ixG_nat (by rw [List.getElem?_map, List.getElem?_range h]; rfl)
theorem rev_rng {β : Type} (f : Nat → β) (n : Nat) : ((List.range n).map f).reverse = (List.range n).map fun s => f (n - 1 - s) := by
  apply List.ext_getElem?
  intro i
  by_cases h : i < n
  · rw [List.getElem?_reverse (by simpa using h), List.getElem?_map, List.getElem?_map, List.length_map, List.length_range, List.getElem?_range h, List.getElem?_range (by omega)]
    rfl
  · rw [List.getElem?_eq_none (by simpa using h), List.getElem?_eq_none (by simpa using h)]
theorem div_posQ {x y : Rat} (h : 0 < x) (h2 : 0 < y) : 0 < x / y := by rw [Rat.div_def]; exact Rat.mul_pos h (Rat.inv_pos.mpr h2)
theorem inv_powQ {r : Rat} (h : r ≠ 0) : ∀ n : Nat, (r⁻¹) ^ n = (r ^ n)⁻¹
  | 0 => by rw [Rat.pow_zero, Rat.pow_zero]; decide +kernel
  | n + 1 => by rw [pow_succ', pow_succ', inv_powQ h n, Rat.inv_mul_rev, Rat.mul_comm]
theorem nlt {a b : Rat} (h : b ≤ a) : decide (a < b) = false := decide_eq_false (Rat.not_lt.mpr h)
theorem asc_len : ∀ {l : List Int} {a b : Int}, l.Pairwise (· < ·) → (∀ x ∈ l, a ≤ x ∧ x ≤ b) → a ≤ b + 1 → (l.length : Int) ≤ b + 1 - a
  | [], a, b, _, _, h => by simp; omega
  | x :: l, a, b, h, hx, _ => by
    rw [List.pairwise_cons] at h
    have h1 := hx x (List.mem_cons_self ..)
    have := asc_len (l := l) (a := x + 1) (b := b) h.2 (fun y hy => ⟨by have := h.1 y hy; omega, (hx y (List.mem_cons_of_mem _ hy)).2⟩) (by omega)
    rw [List.length_cons]; push_cast; omega
theorem putP_nodup {α : Type} {l : List (Int × α)} {k : Int} {x : α} (h : (l.map Prod.fst).Nodup) : ((putP l k x).map Prod.fst).Nodup := by
  unfold putP
  split
  · rw [List.map_map]
    have e : (Prod.fst ∘ fun p : Int × α => if p.1 = k then (p.1, x) else p) = Prod.fst := by funext p; show (if p.1 = k then (p.1, x) else p).1 = p.1; split <;> rfl
    rw [e]; exact h
  · rename_i q
    rw [List.map_append]
    refine List.nodup_append.mpr ⟨h, by simp, fun a ha b hb => ?_⟩
    rw [List.map_cons, List.map_nil, List.mem_singleton] at hb
    subst hb
    intro e
    subst e
    obtain ⟨p, hp, e⟩ := List.mem_map.mp ha
    have := List.any_eq_false.mp q p hp
    exact this (decide_eq_true e)
theorem Fa.get {α β : Type} {R : α → β → Prop} {l : List α} {m : List β} (h : Fa R l m) : ∀ {i : Nat} {b : β}, m[i]? = some b → ∃ a, l[i]? = some a ∧ R a b := by
  induction h with
  | nil => intro i b hb; simp at hb
  | cons r _ ih =>
    intro i b hb
    cases i with
    | zero => cases hb; exact ⟨_, rfl, r⟩
    | succ i => exact ih (by simpa using hb)
theorem asc_ix : ∀ {l : List Int} {i j : Nat} {a b : Int}, l.Pairwise (· < ·) → l[i]? = some a → l[j]? = some b → i < j → a < b
  | [], i, j, a, b, _, h, _, _ => by simp at h
  | x :: l, 0, j + 1, a, b, h, h1, h2, _ => by
    rw [List.pairwise_cons] at h
    have e : x = a := by simpa using h1
    rw [← e]
    exact h.1 b (List.mem_of_getElem? (by simpa using h2))
  | x :: l, i + 1, j + 1, a, b, h, h1, h2, hij => by
    rw [List.pairwise_cons] at h
    exact asc_ix h.2 (by simpa using h1) (by simpa using h2) (by omega)
theorem ixG_some {α : Type} [Inhabited α] {l : List α} {i : Int} (h : 0 ≤ i ∧ i < l.length) : l[i.toNat]? = some (ixG l i) := by
  have e : l[i.toNat]? = some (l[i.toNat]'(by omega)) := List.getElem?_eq_getElem (by omega)
  have := ixG_nat e
  rw [show ((i.toNat : Nat) : Int) = i by omega] at this
  rw [e, this]
theorem div_lt {a b c : Int} (h : a < b) (hc : 0 < c) : Rat.divInt a c < Rat.divInt b c := (less_i (a := a) (b := c) (c := b) (d := c) hc hc).mp (Int.mul_lt_mul_of_pos_right h hc)
theorem one_ne {x : Int} {n : Int} (h : ∃ a b : Int, a = 1 ∧ (0 ≤ b ∧ b < n) ∧ x = 1 + b) : x ≠ 0 := by
  obtain ⟨a, b, _, hb, e⟩ := h; omega
theorem one_lt {x : Int} {n : Int} (h : ∃ a b : Int, a = 1 ∧ (0 ≤ b ∧ b < n) ∧ x = 1 + b) (hn : n < 1000) : x.natAbs < 2 ^ 8999 := by
  obtain ⟨a, b, _, hb, e⟩ := h; exact small_lt (by omega)
theorem two_pow (x : Nat) : 2 ^ x + 2 ^ x = 2 ^ (x + 1) := by rw [Nat.pow_succ]; omega
theorem cut_mid {α : Type} (l : List α) {a b : Int} (h : 0 ≤ a ∧ a ≤ b ∧ b ≤ l.length) : cutX l (some a) (some b) = (l.drop a.toNat).take (b.toNat - a.toNat) := by
  have h1 : ∀ d, HT.sIx l.length d (some a) = a.toNat := fun d => by
    show (if a < 0 then _ else min a.toNat l.length) = _
    rw [if_neg (by omega)]; omega
  have h2 : ∀ d, HT.sIx l.length d (some b) = b.toNat := fun d => by
    show (if b < 0 then _ else min b.toNat l.length) = _
    rw [if_neg (by omega)]; omega
  unfold cutX
  rw [h1, h2]
theorem mem3 {α : Type} {a b c x : α} (h : x ∈ [a, b, c]) : x = a ∨ x = b ∨ x = c := by simpa using h
theorem mem2 {α : Type} {a b x : α} (h : x ∈ [a, b]) : x = a ∨ x = b := by simpa using h
def bin : Nat → Nat → Nat
  | _, 0 => 1
  | 0, _ + 1 => 0
  | n + 1, k + 1 => bin n k + bin n (k + 1)
theorem bin_zero (n : Nat) : bin n 0 = 1 := by cases n <;> rfl
theorem bin_gt : ∀ {n k : Nat}, n < k → bin n k = 0
  | 0, _ + 1, _ => rfl
  | n + 1, k + 1, h => by
    show bin n k + bin n (k + 1) = 0
    rw [bin_gt (by omega), bin_gt (by omega)]
theorem bin_self : ∀ n, bin n n = 1
  | 0 => rfl
  | n + 1 => by
    show bin n n + bin n (n + 1) = 1
    rw [bin_self, bin_gt (by omega)]
theorem bin_pos : ∀ {n k : Nat}, k ≤ n → 0 < bin n k
  | _, 0, _ => by rw [bin_zero]; decide
  | n + 1, k + 1, h => by
    show 0 < bin n k + bin n (k + 1)
    have := bin_pos (n := n) (k := k) (by omega)
    omega
theorem bin_le : ∀ n k, bin n k ≤ 2 ^ n
  | 0, 0 => by decide
  | 0, _ + 1 => by show 0 ≤ 1; decide
  | n + 1, 0 => by rw [bin_zero]; exact Nat.one_le_two_pow
  | n + 1, k + 1 => by
    show bin n k + bin n (k + 1) ≤ 2 ^ (n + 1)
    have := bin_le n k
    have := bin_le n (k + 1)
    rw [Nat.pow_succ]; omega
theorem bin_step : ∀ n k, bin n (k + 1) * (k + 1) = bin n k * (n - k)
  | 0, k => by
    show 0 * (k + 1) = _
    rw [Nat.zero_sub, Nat.mul_zero, Nat.zero_mul]
  | n + 1, 0 => by
    have h : bin n 1 = n := by simpa [bin_zero] using bin_step n 0
    show (bin n 0 + bin n 1) * 1 = bin (n + 1) 0 * (n + 1)
    rw [bin_zero, bin_zero, h]
    omega
  | n + 1, k + 1 => by
    have h1 := bin_step n k
    have h2 := bin_step n (k + 1)
    show (bin n (k + 1) + bin n (k + 2)) * (k + 2) = (bin n k + bin n (k + 1)) * (n + 1 - (k + 1))
    by_cases hk : k ≤ n
    · by_cases hk2 : k = n
      · subst hk2
        rw [bin_gt (show k < k + 1 by omega), bin_gt (show k < k + 2 by omega)]
        simp
      · obtain ⟨m, rfl⟩ : ∃ m, n = k + 1 + m := ⟨n - (k + 1), by omega⟩
        rw [show k + 1 + m - k = m + 1 by omega] at h1
        rw [show k + 1 + m - (k + 1) = m by omega] at h2
        rw [show k + 1 + m + 1 - (k + 1) = m + 1 by omega]
        have e1 : (bin (k + 1 + m) (k + 1) + bin (k + 1 + m) (k + 2)) * (k + 2) = bin (k + 1 + m) (k + 1) * (k + 1) + bin (k + 1 + m) (k + 1) + bin (k + 1 + m) (k + 1 + 1) * (k + 1 + 1) := by
          rw [Nat.add_mul, Nat.mul_add _ (k + 1) 1, Nat.mul_one]
        rw [e1, h1, h2, Nat.add_mul]
        rw [Nat.mul_add (bin (k + 1 + m) (k + 1)) m 1, Nat.mul_one]
        omega
    · rw [bin_gt (show n < k + 1 by omega), bin_gt (show n < k + 2 by omega), bin_gt (show n < k by omega)]
      simp
theorem bin_next {n k : Nat} : bin n k * (n - k) / (k + 1) = bin n (k + 1) := by
  rw [← bin_step]; exact Nat.mul_div_cancel _ (by omega)
def chI (n k : Int) : Int := if k < 0 ∨ n < k then 0 else (bin n.toNat k.toNat : Int)
theorem chI_nat {n k : Nat} : chI n k = (bin n k : Int) := by
  unfold chI
  by_cases h : n < k
  · rw [if_pos (.inr (by omega)), bin_gt h]; rfl
  · rw [if_neg (by omega)]; rfl
theorem bin_stepI {n : Int} {k : Nat} (h : (k : Int) < n) : ((bin n.toNat k : Nat) : Int) * (n - (k : Int)) / ((k : Int) + 1) = ((bin n.toNat (k + 1) : Nat) : Int) := by
  rw [← bin_next, Int.natCast_ediv, Int.natCast_mul]
  have : ((n.toNat - k : Nat) : Int) = n - k := by omega
  rw [this]; rfl
theorem bin_stepJ {n : Int} {k : Nat} (h : 0 ≤ n) : ((bin n.toNat k : Nat) : Int) * (n - (k : Int)) / ((k : Int) + 1) = ((bin n.toNat (k + 1) : Nat) : Int) := by
  by_cases hk : (k : Int) < n
  · exact bin_stepI hk
  · rw [bin_gt (show n.toNat < k + 1 by omega)]
    by_cases e : (k : Int) = n
    · rw [e, Int.sub_self, Int.mul_zero, Int.zero_ediv]; rfl
    · rw [bin_gt (show n.toNat < k by omega)]; simp
theorem chI_nonneg (n k : Int) : 0 ≤ chI n k := by unfold chI; split <;> omega
theorem chI_le {n k : Int} : (chI n k).natAbs ≤ 2 ^ n.toNat := by
  unfold chI
  split
  · simp
  · exact bin_le _ _
theorem chI_pos {n k : Int} (h : 0 ≤ k ∧ k ≤ n) : 0 < chI n k := by
  unfold chI
  rw [if_neg (by omega)]
  have := bin_pos (n := n.toNat) (k := k.toNat) (by omega)
  omega
theorem chI_Qk {m n k j : Int} {b : Nat} (h : 0 ≤ k ∧ k ≤ n) (hn : n ≤ b) (hm : m ≤ b) : Qk b (Rat.divInt (chI m j) (chI n k)) :=
  Qk_divInt (chI_pos h) (Nat.le_trans chI_le (Nat.pow_le_pow_right (by decide) (by omega))) (Nat.le_trans chI_le (Nat.pow_le_pow_right (by decide) (by omega)))
theorem lawch_ret {many few : Int} (h : 0 ≤ many) : PyData.int (if (decide ((0 : Int) ≤ few) && decide (few ≤ many)) = true then ((bin many.toNat (List.range few.toNat).length : Nat) : Int) else 0) = PyData.int (chI many few) := by
  rw [List.length_range]
  unfold chI
  by_cases h1 : few < 0 ∨ many < few
  · rw [if_pos h1, if_neg (by simp; omega)]
  · rw [if_neg h1, if_pos (by simp; omega)]
theorem cut_last {α : Type} (l : List α) : cutX l none (some (-(1 : Int))) = l.take (l.length - 1) := by
  unfold cutX
  have e0 : HT.sIx l.length 0 none = 0 := rfl
  have e1 : HT.sIx l.length l.length (some (-(1 : Int))) = l.length - 1 := by
    unfold HT.sIx
    simp
    omega
  rw [e0, e1, List.drop_zero, Nat.sub_zero]
theorem cut_len {l : List Int} : (cutX l none (some (-(1 : Int)))).length ≤ l.length := by rw [cut_last, List.length_take]; omega
theorem cut_back {α : Type} (l : List α) (k : Int) (hk : 0 ≤ k ∧ k ≤ l.length) : cutX l (some k) none = l.drop k.toNat ∧ cutX l none (some k) = l.take k.toNat := by
  have h0 : HT.sIx l.length 0 none = 0 := rfl
  have h1 : HT.sIx l.length l.length none = l.length := rfl
  have h2 : ∀ d, HT.sIx l.length d (some k) = k.toNat := fun d => by
    show (if k < 0 then _ else min k.toNat l.length) = _
    rw [if_neg (by omega)]; omega
  unfold cutX
  rw [h0, h1, h2, h2]
  refine ⟨?_, by simp⟩
  rw [List.take_of_length_le (by rw [List.length_drop]; omega)]
theorem ch_out {n k : Int} (h : (decide (k < 0) || decide (n < k)) = true) : PyData.int 0 = PyData.int (chI n k) := by
  simp only [Bool.or_eq_true, decide_eq_true_eq] at h
  unfold chI; rw [if_pos h]
theorem ch_in {n k : Int} (h : (decide (k < 0) || decide (n < k)) = false) : PyData.int ((bin n.toNat (List.range k.toNat).length : Nat) : Int) = PyData.int (chI n k) := by
  simp only [Bool.or_eq_false_iff, decide_eq_false_iff_not] at h
  unfold chI; rw [if_neg (by omega), List.length_range]
end Nz

set_option exponentiation.threshold 10000
/-! slips: the mathematics -/
namespace Nz
open PySem PySem.Spec PyProof.Rows L2 RZ
abbrev Leg := Rat × Str
abbrev wonS : Str := Str.ofString "won"
abbrev lostS : Str := Str.ofString "lost"
abbrev voidS : Str := Str.ofString "void"
def LegOk (l : Leg) : Prop := (l.1.den ≤ 12 ∧ (l.1.den : Int) ≤ l.1.num ∧ l.1.num ≤ 72) ∧ l.2 ∈ [wonS, lostS, voidS]
def LegsOk (n : Nat) (legs : List Leg) : Prop := 1 ≤ legs.length ∧ legs.length ≤ n ∧ ∀ l ∈ legs, LegOk l
def SzOk (n : Nat) (sizes : List Int) : Prop := sizes ≠ [] ∧ sizes.Pairwise (· < ·) ∧ ∀ s ∈ sizes, 1 ≤ s ∧ s ≤ n
def facF (l : Leg) : Rat := if decide (l.2 = wonS) = true then l.1 else if decide (l.2 = lostS) = true then 0 else 1
/-! ### parts of a common whole -/
def DD : Nat := 277200
def EB (n : Nat) (r : Rat) : Prop := Bd (2 ^ (26 * n)) (DD ^ n) r
/-- a factor: a part of DD, of at most 72 -/
def FB (r : Rat) : Prop := Bd (2 ^ 25) DD r
theorem EB_zero (n : Nat) : EB n 0 := Bd_zero (Nat.pow_pos (by decide))
theorem EB_up {n : Nat} {r : Rat} (h : EB n r) : EB (n + 1) r := by
  obtain ⟨h0, k, hk, e⟩ := h
  refine ⟨Nat.pow_pos (by decide), k * (DD : Int), ?_, ?_⟩
  · rw [Int.natAbs_mul, show 26 * (n + 1) = 26 * n + 26 by omega, Nat.pow_add]
    exact Nat.mul_le_mul hk (by decide)
  · rw [e, Nat.pow_succ, Int.natCast_mul, Rat.divInt_mul_right (by decide)]
theorem EB_step {n : Nat} {a b x : Rat} (ha : EB n a) (hb : EB n b) (hx : FB x) : EB (n + 1) (a + b * x) := by
  obtain ⟨h0, k, hk, e⟩ := ha
  have z : Bd (2 ^ (26 * n) * DD) (DD ^ (n + 1)) a := by
    refine ⟨Nat.pow_pos (by decide), k * (DD : Int), ?_, ?_⟩
    · rw [Int.natAbs_mul]; exact Nat.mul_le_mul hk (Nat.le_refl _)
    · rw [e, Nat.pow_succ, Int.natCast_mul, Rat.divInt_mul_right (by decide)]
  have y := Bd_mul hb hx
  rw [← Nat.pow_succ] at y
  refine (Bd_add z y).mono ?_
  rw [← Nat.mul_add, show 26 * (n + 1) = 26 * n + 26 by omega, Nat.pow_add]
  exact Nat.mul_le_mul (Nat.le_refl _) (by decide)
theorem EB_mono {n m : Nat} (h : n ≤ m) {r : Rat} (hr : EB n r) : EB m r := by
  induction h with
  | refl => exact hr
  | step _ ih => exact EB_up ih
theorem DD_pow {n : Nat} (h : n ≤ 11) : DD ^ n ≤ 2 ^ 300 := by
  calc DD ^ n ≤ (2 ^ 20) ^ n := Nat.pow_le_pow_left (by decide) n
    _ = 2 ^ (20 * n) := by rw [← Nat.pow_mul]
    _ ≤ 2 ^ 300 := Nat.pow_le_pow_right (by decide) (by omega)
theorem EB_qk {n : Nat} (h : n ≤ 11) {r : Rat} (hr : EB n r) : Qk 300 r := hr.qk (Nat.pow_le_pow_right (by decide) (by omega)) (DD_pow h)
theorem snocInd {α : Type} {P : List α → Prop} (h0 : P []) (h1 : ∀ l x, P l → P (l ++ [x])) (l : List α) : P l := by
  have key : ∀ n, ∀ l : List α, l.length = n → P l := by
    intro n
    induction n with
    | zero => intro l hl; rw [List.eq_nil_of_length_eq_zero hl]; exact h0
    | succ n ih =>
      intro l hl
      have hne : l ≠ [] := fun e => by rw [e] at hl; simp at hl
      rw [← List.dropLast_concat_getLast hne]
      exact h1 _ _ (ih _ (by rw [List.length_dropLast]; omega))
  exact key _ l rfl
/-! ### elementary sums -/
def stE (e : Nat → Rat) (x : Rat) : Nat → Rat
  | 0 => e 0
  | k + 1 => e (k + 1) + e k * x
def e0 : Nat → Rat := fun k => if k = 0 then 1 else 0
def eF (l : List Rat) : Nat → Rat := l.foldl stE e0
theorem eF_snoc (l : List Rat) (x : Rat) : eF (l ++ [x]) = stE (eF l) x := by unfold eF; rw [List.foldl_append]; rfl
theorem eF_gt : ∀ (l : List Rat) (k : Nat), l.length < k → eF l k = 0 := by
  intro l
  refine snocInd (P := fun l => ∀ k, l.length < k → eF l k = 0) ?_ ?_ l
  · intro k hk
    cases k with
    | zero => simp at hk
    | succ k => rfl
  · intro l x ih k hk
    rw [eF_snoc]
    rw [List.length_append] at hk
    cases k with
    | zero => simp at hk
    | succ k =>
      simp only [List.length_cons, List.length_nil] at hk
      show eF l (k + 1) + eF l k * x = 0
      rw [ih _ (by omega), ih _ (by omega), Rat.zero_mul, Rat.add_zero]
theorem eF_eb {l : List Rat} : (∀ x ∈ l, FB x) → ∀ k, EB l.length (eF l k) := by
  refine snocInd (P := fun l => (∀ x ∈ l, FB x) → ∀ k, EB l.length (eF l k)) ?_ ?_ l
  · intro _ k
    show EB 0 (e0 k)
    unfold e0
    split
    · exact Bd_one (by decide)
    · exact EB_zero 0
  · intro l x ih h k
    rw [eF_snoc, List.length_append]
    have ih := ih fun y hy => h y (List.mem_append_left _ hy)
    have hx := h x (List.mem_append_right _ (List.mem_singleton.mpr rfl))
    cases k with
    | zero => exact EB_up (ih 0)
    | succ k => exact EB_step (ih _) (ih _) hx
def esF (l : List Rat) : List Rat := (List.range (l.length + 1)).map (eF l)
theorem esF_len (l : List Rat) : (esF l).length = l.length + 1 := by unfold esF; rw [List.length_map, List.length_range]
theorem esF_at {l : List Rat} {k : Nat} (h : k ≤ l.length) : ixG (esF l) (k : Int) = eF l k := ixG_rng (by omega)
theorem esF_atI {l : List Rat} {k : Int} (h : 0 ≤ k ∧ k ≤ l.length) : ixG (esF l) k = eF l k.toNat := by
  have := esF_at (l := l) (k := k.toNat) (by omega)
  rwa [show ((k.toNat : Nat) : Int) = k by omega] at this
/-- the next row, as it is changed place by place -/
def esU (f : List Rat) (x : Rat) : Nat → List Rat
  | 0 => f ++ [0]
  | j + 1 => (esU f x j).set (j + 1) (ixG (esU f x j) ((j : Int) + 1) + ixG f (j : Int) * x)
theorem esU_len (f : List Rat) (x : Rat) : ∀ j, (esU f x j).length = f.length + 1
  | 0 => by unfold esU; simp
  | j + 1 => by unfold esU; rw [List.length_set, esU_len f x j]
theorem esU_get (f : List Rat) (x : Rat) : ∀ j, j ≤ f.length → ∀ k, k ≤ f.length → (esU f x j)[k]? = some (ixG (f ++ [0]) (k : Int) + if 1 ≤ k ∧ k ≤ j then ixG f ((k : Int) - 1) * x else 0)
  | 0, _, k, hk => by
    unfold esU
    rw [if_neg (by omega), Rat.add_zero]
    have := ixG_some (l := f ++ [0]) (i := (k : Int)) (by simp; omega)
    simpa using this
  | j + 1, hj, k, hk => by
    unfold esU
    have ih := esU_get f x j (by omega)
    by_cases e : j + 1 = k
    · subst e
      rw [List.getElem?_set_self (by rw [esU_len]; omega)]
      have := ih (j + 1) hk
      rw [show ((j : Int) + 1) = ((j + 1 : Nat) : Int) by omega, ixG_nat this, if_neg (by omega), if_pos (by omega), Rat.add_zero, show ((j + 1 : Nat) : Int) - 1 = (j : Int) by omega]
    · rw [List.getElem?_set_ne e, ih k hk]
      by_cases q : 1 ≤ k ∧ k ≤ j
      · rw [if_pos q, if_pos (by omega)]
      · rw [if_neg q, if_neg (by omega)]
theorem esU_end (l : List Rat) (x : Rat) : esU (esF l) x (esF l).length = esF (l ++ [x]) := by
  have hl := esF_len l
  apply List.ext_getElem?
  intro k
  by_cases h : k ≤ l.length + 1
  · rw [esU_get _ _ _ (Nat.le_refl _) k (by omega)]
    unfold esF
    rw [List.getElem?_map, List.getElem?_range (by simp; omega), eF_snoc]
    show _ = some _
    congr 1
    have hA : ixG ((List.range (l.length + 1)).map (eF l) ++ [0]) (k : Int) = eF l k := by
      by_cases q : k ≤ l.length
      · exact ixG_nat (by rw [List.getElem?_append_left (by simpa using by omega), List.getElem?_map, List.getElem?_range (by omega)]; rfl)
      · rw [eF_gt l k (by omega)]
        have e : k = l.length + 1 := by omega
        subst e
        exact ixG_nat (by rw [List.getElem?_append_right (by simp)]; simp)
    rw [hA]
    cases k with
    | zero => rw [if_neg (by omega), Rat.add_zero]; rfl
    | succ k =>
      rw [if_pos (by rw [List.length_map, List.length_range]; omega), show (((k + 1 : Nat) : Int) - 1) = (k : Int) by omega, ixG_rng (by omega)]
      rfl
  · rw [List.getElem?_eq_none (by rw [esU_len]; omega), List.getElem?_eq_none (by rw [esF_len, List.length_append]; simp; omega)]
theorem esU_eb {l : List Rat} (h : ∀ x ∈ l, FB x) {x : Rat} (hx : FB x) {j : Nat} (hj : j ≤ l.length + 1) {k : Nat} (hk : k ≤ l.length + 1) : EB (l.length + 1) (ixG (esU (esF l) x j) (k : Int)) := by
  have hl := esF_len l
  have eb := eF_eb h
  have g := esU_get (esF l) x j (by omega) k (by omega)
  rw [ixG_nat g]
  have hA : ∀ k : Nat, EB l.length (ixG (esF l ++ [0]) (k : Int)) := fun k => by
    by_cases q : k ≤ l.length
    · have : ixG (esF l ++ [0]) (k : Int) = eF l k := ixG_nat (by unfold esF; rw [List.getElem?_append_left (by simpa using by omega), List.getElem?_map, List.getElem?_range (by omega)]; rfl)
      rw [this]; exact eb k
    · by_cases q2 : k = l.length + 1
      · have : ixG (esF l ++ [0]) (k : Int) = 0 := ixG_nat (by subst q2; rw [List.getElem?_append_right (by omega), hl]; simp)
        rw [this]; exact EB_zero _
      · have : ixG (esF l ++ [0]) (k : Int) = 0 := by
          unfold ixG atI ixN
          rw [if_pos (by omega), if_neg (by simp; omega)]; rfl
        rw [this]; exact EB_zero _
  split
  · rename_i q
    have : ixG (esF l) ((k : Int) - 1) = eF l (k - 1) := by
      have := esF_at (l := l) (k := k - 1) (by omega)
      rwa [show ((k - 1 : Nat) : Int) = (k : Int) - 1 by omega] at this
    rw [this]
    exact EB_step (hA k) (eb _) hx
  · rw [Rat.add_zero]; exact EB_up (hA k)
/-- the sum over sizes -/
def sumE (l : List Rat) (sizes : List Int) : Rat := (sizes.map fun s => eF l s.toNat).sum
theorem take_sum {α : Type} {f : α → Rat} {l : List α} {i : Nat} {x : α} (h : l[i]? = some x) : ((l.take i).map f).sum + f x = ((l.take (i + 1)).map f).sum := by
  rw [List.take_add_one, h, List.map_append, List.sum_append]
  show _ = _ + ([f x]).sum
  rw [List.sum_cons, List.sum_nil, Rat.add_zero]
theorem sumE_bd {l : List Rat} (h : ∀ x ∈ l, FB x) (sizes : List Int) : Bd (sizes.length * 2 ^ (26 * l.length)) (DD ^ l.length) (sumE l sizes) := by
  have := Bd_sum (M := 2 ^ (26 * l.length)) (D := DD ^ l.length) (l := sizes.map fun s => eF l s.toNat) (Nat.pow_pos (by decide)) (fun r hr => by
    obtain ⟨s, _, rfl⟩ := List.mem_map.mp hr
    exact eF_eb h _)
  rwa [List.length_map] at this
theorem sumE_qk {l : List Rat} (h : ∀ x ∈ l, FB x) (hl : l.length ≤ 11) {sizes : List Int} (hs : sizes.length ≤ 16) : Qk 300 (sumE l sizes) := by
  refine (sumE_bd h sizes).qk ?_ (DD_pow hl)
  calc sizes.length * 2 ^ (26 * l.length) ≤ 2 ^ 4 * 2 ^ (26 * l.length) := Nat.mul_le_mul_right _ hs
    _ = 2 ^ (4 + 26 * l.length) := (Nat.pow_add 2 4 _).symm
    _ ≤ 2 ^ 300 := Nat.pow_le_pow_right (by decide) (by omega)
/-! ### factors -/
theorem FB_of {r : Rat} (h : r.num.natAbs ≤ 72 * r.den) (hd : r.den ∣ DD) : FB r := by
  obtain ⟨q, hq⟩ := hd
  have hp : 0 < r.den := r.den_pos
  have hq0 : 0 < q := by
    rcases Nat.eq_zero_or_pos q with z | z
    · subst z; simp [DD] at hq
    · exact z
  refine ⟨by decide, r.num * (q : Int), ?_, ?_⟩
  · rw [Int.natAbs_mul, Int.natAbs_natCast]
    calc r.num.natAbs * q ≤ 72 * r.den * q := Nat.mul_le_mul_right _ h
      _ = 72 * DD := by rw [Nat.mul_assoc, ← hq]
      _ ≤ 2 ^ 25 := by decide
  · rw [hq, Int.natCast_mul, Rat.divInt_mul_right (by omega), Rat.num_divInt_den]
theorem small_dvd {d : Nat} (h : 0 < d ∧ d ≤ 12) : d ∣ 27720 := by
  have : ∀ d : Fin 13, 0 < d.val → d.val ∣ 27720 := by decide
  exact this ⟨d, by omega⟩ h.1
theorem leg_fb {l : Leg} (h : LegOk l) : FB l.1 := by
  obtain ⟨⟨h1, h2, h3⟩, _⟩ := h
  have := l.1.den_pos
  exact FB_of (by omega) (Nat.dvd_trans (small_dvd ⟨this, h1⟩) (by decide))
theorem fac_fb {l : Leg} (h : LegOk l) : FB (facF l) := by
  unfold facF
  split
  · exact leg_fb h
  · split
    · exact Bd_zero (by decide)
    · exact (Bd_one (by decide)).mono (by decide)
theorem legs_fb {n : Nat} {legs : List Leg} (h : LegsOk n legs) : ∀ x ∈ legs.map facF, FB x := fun x hx => by
  obtain ⟨l, hl, rfl⟩ := List.mem_map.mp hx
  exact fac_fb (h.2.2 l hl)
theorem szOk_len {n : Nat} {sizes : List Int} (h : SzOk n sizes) : sizes.length ≤ n := by
  have := asc_len h.2.1 h.2.2 (by
    obtain ⟨s, hs⟩ := List.exists_mem_of_ne_nil _ h.1
    have := h.2.2 s hs
    omega)
  omega
theorem sums_in {f : List Rat} {x : Rat} {i : Nat} {p : Rat × Nat} (h : f.zipIdx[i]? = some p) : (esU f x i).set ((p.2 : Int) + 1).toNat (ixG (esU f x i) ((p.2 : Int) + 1) + p.1 * x) = esU f x (i + 1) := by
  obtain ⟨h1, h2, h3⟩ := en_get h
  rw [h1, show ((i : Int) + 1).toNat = i + 1 by omega]
  conv => rhs; unfold esU
  rw [ixG_nat h2]
theorem sums_item {l : List Rat} {i : Nat} {p : Rat × Nat} (h : (esF l).zipIdx[i]? = some p) : p.1 = eF l p.2 := by
  obtain ⟨h1, h2, h3⟩ := en_get h
  have := esF_at (l := l) (k := i) (by rw [esF_len] at h3; omega)
  rw [← ixG_nat h2, this, h1]
theorem sums_step {l : List Rat} {i n : Nat} {x : Rat} (h : l[i]? = some x) (hn : n = (esF (l.take i)).length) : esU (esF (l.take i)) x n = esF (l.take (i + 1)) := by
  rw [hn, esU_end, List.take_add_one, h]; rfl
end Nz

set_option exponentiation.threshold 10000
/-! slips: lines -/
namespace Nz
open PySem PySem.Spec PyProof.Rows L2 RZ
def nxR (row : List Int) : Int := if (!row.isEmpty) = true then ixG row (-(1 : Int)) + 1 else 0
def extR (n : Int) (row : List Int) : List (List Int) := (rngX (nxR row) n).map fun o => row ++ [o]
def rowsOf (n : Int) : Nat → List (List Int)
  | 0 => [[]]
  | k + 1 => (rowsOf n k).flatMap (extR n)
def RowIn (n : Int) (k : Nat) (row : List Int) : Prop := row.length = k ∧ row.Pairwise (· < ·) ∧ (∀ x ∈ row, 0 ≤ x ∧ x < n) ∧ (∀ x ∈ row, x < nxR row) ∧ 0 ≤ nxR row ∧ (0 ≤ n → nxR row ≤ n)
theorem nxR_snoc (row : List Int) (o : Int) : nxR (row ++ [o]) = o + 1 := by
  unfold nxR
  rw [if_pos (by simp), ixG_last]
theorem rngX_mem {a b x : Int} : x ∈ rngX a b ↔ a ≤ x ∧ x < b := by
  unfold rngX
  rw [List.mem_map]
  constructor
  · rintro ⟨k, hk, rfl⟩
    have := List.mem_range.mp hk
    omega
  · intro h
    exact ⟨(x - a).toNat, List.mem_range.mpr (by omega), by omega⟩
theorem rows_in {n : Int} : ∀ k, ∀ row ∈ rowsOf n k, RowIn n k row
  | 0, row, h => by
    have e : row = [] := List.mem_singleton.mp h
    subst e
    exact ⟨rfl, .nil, (fun x hx => by cases hx), (fun x hx => by cases hx), Int.le_refl _, fun h => h⟩
  | k + 1, row, h => by
    obtain ⟨r, hr, he⟩ := List.mem_flatMap.mp h
    obtain ⟨o, ho, rfl⟩ := List.mem_map.mp he
    obtain ⟨i1, i2, i3, i4, i5, i6⟩ := rows_in k r hr
    have ho := rngX_mem.mp ho
    refine ⟨by simp [i1], ?_, fun x hx => ?_, fun x hx => ?_, by rw [nxR_snoc]; omega, fun _ => by rw [nxR_snoc]; omega⟩
    · rw [List.pairwise_append]
      exact ⟨i2, List.pairwise_singleton _ _, fun a ha b hb => by rw [List.mem_singleton.mp hb]; have := i4 a ha; omega⟩
    · rcases List.mem_append.mp hx with hx | hx
      · exact i3 x hx
      · rw [List.mem_singleton.mp hx]; omega
    · rw [nxR_snoc]
      rcases List.mem_append.mp hx with hx | hx
      · have := i4 x hx; omega
      · rw [List.mem_singleton.mp hx]; omega
/-- the sum of C(n - o - 1, j) over o from a on -/
theorem hockey (j : Nat) : ∀ (m : Nat) (a n : Int), n - a = m → ((rngX a n).map fun o => bin (n - o - 1).toNat j).sum = bin m (j + 1)
  | 0, a, n, h => by
    have e : rngX a n = [] := by unfold rngX; rw [show (n - a).toNat = 0 by omega]; rfl
    rw [e]; simp [bin]
  | m + 1, a, n, h => by
    have e : rngX a n = a :: rngX (a + 1) n := by
      unfold rngX
      rw [show (n - a).toNat = (n - (a + 1)).toNat + 1 by omega, List.range_succ_eq_map, List.map_cons, List.map_map]
      congr 1
      · omega
      · refine List.map_congr_left fun i _ => ?_
        show a + ((i + 1 : Nat) : Int) = a + 1 + (i : Int)
        omega
    rw [e, List.map_cons, List.sum_cons, hockey j m (a + 1) n (by omega), show (n - a - 1).toNat = m by omega]
    rfl
theorem sum_flat {α : Type} (f : α → List α) (g : α → Nat) (l : List α) : ((l.flatMap f).map g).sum = (l.map fun x => ((f x).map g).sum).sum := by
  induction l with
  | nil => rfl
  | cons x l ih => rw [List.flatMap_cons, List.map_append, List.sum_append, ih, List.map_cons, List.sum_cons]
theorem rows_cnt {n : Int} (hn : 0 ≤ n) : ∀ (j k : Nat), (rowsOf n (k + j)).length = ((rowsOf n k).map fun row => bin (n - nxR row).toNat j).sum
  | 0, k => by
    have e : ((rowsOf n k).map fun row => bin (n - nxR row).toNat 0) = (rowsOf n k).map fun _ => 1 := List.map_congr_left fun r _ => bin_zero _
    rw [e]
    induction rowsOf n k with
    | nil => rfl
    | cons a l ih => rw [List.map_cons, List.sum_cons, ← ih, List.length_cons]; omega
  | j + 1, k => by
    rw [show k + (j + 1) = (k + 1) + j by omega, rows_cnt hn j (k + 1)]
    show (((rowsOf n k).flatMap (extR n)).map _).sum = _
    rw [sum_flat]
    congr 1
    refine List.map_congr_left fun row hr => ?_
    have hi := rows_in k row hr
    have h6 := hi.2.2.2.2.2 hn
    unfold extR
    rw [List.map_map]
    have e : ((fun row : List Int => bin (n - nxR row).toNat j) ∘ fun o : Int => row ++ [o]) = fun o => bin (n - o - 1).toNat j := by
      funext o
      show bin (n - nxR (row ++ [o])).toNat j = _
      rw [nxR_snoc]
      congr 2
      omega
    rw [e]
    exact hockey j (n - nxR row).toNat _ _ (by omega)
theorem rows_len {n : Int} (hn : 0 ≤ n) (k : Nat) : (rowsOf n k).length = bin n.toNat k := by
  have h := rows_cnt hn k 0
  rw [Nat.zero_add] at h
  rw [h]
  show ([[]].map fun row => bin (n - nxR row).toNat k).sum = _
  show bin (n - 0).toNat k + 0 = _
  rw [Int.sub_zero, Nat.add_zero]
theorem rows_le {n : Int} (hn : 0 ≤ n ∧ n ≤ 10) (k : Nat) : (rowsOf n k).length ≤ 1024 := by
  rw [rows_len hn.1]
  exact Nat.le_trans (bin_le _ _) (by calc 2 ^ n.toNat ≤ 2 ^ 10 := Nat.pow_le_pow_right (by decide) (by omega)
    _ = 1024 := by decide)
theorem flat_len_take {α β : Type} (f : α → List β) (l : List α) (i : Nat) : ((l.take i).flatMap f).length ≤ (l.flatMap f).length := by
  conv => rhs; rw [← List.take_append_drop i l, List.flatMap_append, List.length_append]
  omega
theorem flat_take {α β : Type} {f : α → List β} {l : List α} {i : Nat} {x : α} (h : l[i]? = some x) : (l.take i).flatMap f ++ f x = (l.take (i + 1)).flatMap f := by
  rw [List.take_add_one, h, List.flatMap_append]; simp
theorem map_take {α β : Type} {f : α → β} {l : List α} {i : Nat} {x : α} (h : l[i]? = some x) : (l.take i).map f ++ [f x] = (l.take (i + 1)).map f := by
  rw [List.take_add_one, h, List.map_append]; simp
/-! ### what a line pays -/
def prodQ (l : List Rat) : Rat := l.foldl (· * ·) 1
theorem prodQ_snoc (l : List Rat) (x : Rat) : prodQ (l ++ [x]) = prodQ l * x := by unfold prodQ; rw [List.foldl_append]; rfl
theorem prod_step {l : List Rat} {i : Nat} {x : Rat} (h : l[i]? = some x) : prodQ (l.take i) * x = prodQ (l.take (i + 1)) := by
  rw [List.take_add_one, h]; exact (prodQ_snoc _ _).symm
theorem prodQ_bd {l : List Rat} : (∀ x ∈ l, FB x) → Bd (2 ^ (25 * l.length)) (DD ^ l.length) (prodQ l) := by
  refine snocInd (P := fun l => (∀ x ∈ l, FB x) → Bd (2 ^ (25 * l.length)) (DD ^ l.length) (prodQ l)) ?_ ?_ l
  · intro _; exact Bd_one (by decide)
  · intro l x ih h
    have a := ih fun y hy => h y (List.mem_append_left _ hy)
    have b := Bd_mul a (h x (List.mem_append_right _ (List.mem_singleton.mpr rfl)))
    rw [prodQ_snoc, List.length_append, List.length_singleton, Nat.pow_succ, show 25 * (l.length + 1) = 25 * l.length + 25 by omega, Nat.pow_add]
    exact b
theorem prodQ_qk {l : List Rat} (h : ∀ x ∈ l, FB x) (hl : l.length ≤ 11) : Qk 300 (prodQ l) := (prodQ_bd h).qk (Nat.pow_le_pow_right (by decide) (by omega)) (DD_pow hl)
def lineP (legs : List Leg) (row : List Int) : Rat := prodQ (row.map fun i => facF (ixG legs i))
def lineV (legs : List Leg) (stake : Int) (row : List Int) : Int := stake * (lineP legs row).num / ((lineP legs row).den : Int)
def lnS (legs : List Leg) (stake s : Int) : List (List Int × Int) := (rowsOf legs.length s.toNat).map fun row => (row, lineV legs stake row)
def linesOf (legs : List Leg) (sizes : List Int) (stake : Int) : List (List Int × Int) := sizes.flatMap (lnS legs stake)
theorem line_fb {n : Nat} {legs : List Leg} (h : LegsOk n legs) {k : Nat} {row : List Int} (hr : RowIn legs.length k row) : ∀ x ∈ row.map fun i => facF (ixG legs i), FB x := fun x hx => by
  obtain ⟨i, hi, rfl⟩ := List.mem_map.mp hx
  exact fac_fb (h.2.2 _ (ixG_mem (hr.2.2.1 i hi)))
theorem rowIn_len {n : Int} {k : Nat} {row : List Int} (h : RowIn n k row) (hn : 0 ≤ n) : (row.length : Int) ≤ n := by
  have := asc_len h.2.1 (a := 0) (b := n - 1) (fun x hx => by have := h.2.2.1 x hx; omega) (by omega)
  omega
theorem lineP_qk {legs : List Leg} (h : LegsOk 10 legs) {k : Nat} {row : List Int} (hr : RowIn legs.length k row) : Qk 300 (lineP legs row) := by
  have := rowIn_len hr (by omega)
  have := h.2.1
  exact prodQ_qk (line_fb h hr) (by rw [List.length_map]; omega)
theorem lineV_le {legs : List Leg} (h : LegsOk 10 legs) {stake : Int} (hs : 1 ≤ stake ∧ stake ≤ 1000) {k : Nat} {row : List Int} (hr : RowIn legs.length k row) : (lineV legs stake row).natAbs ≤ 2 ^ 310 := by
  have q := (lineP_qk h hr).1
  unfold lineV
  refine Nat.le_trans (Int.natAbs_ediv_le_natAbs _ _) ?_
  rw [Int.natAbs_mul]
  calc stake.natAbs * (lineP legs row).num.natAbs ≤ 2 ^ 10 * 2 ^ 300 := Nat.mul_le_mul (by omega) q
    _ = 2 ^ 310 := by rw [← Nat.pow_add]
theorem lnS_len {legs : List Leg} (h : LegsOk 10 legs) (stake s : Int) : (lnS legs stake s).length ≤ 1024 := by
  unfold lnS
  rw [List.length_map]
  exact rows_le (by have := h.2.1; omega) _
theorem lines_len {legs : List Leg} (h : LegsOk 10 legs) (stake : Int) : ∀ sizes : List Int, (sizes.flatMap (lnS legs stake)).length ≤ 1024 * sizes.length
  | [] => Nat.le_refl _
  | s :: sizes => by
    rw [List.flatMap_cons, List.length_append, List.length_cons]
    have := lines_len h stake sizes
    have := lnS_len h stake s
    omega
theorem sum_natAbs {l : List Int} {M : Nat} (h : ∀ x ∈ l, x.natAbs ≤ M) : l.sum.natAbs ≤ l.length * M := by
  induction l with
  | nil => simp
  | cons a l ih =>
    rw [List.sum_cons, List.length_cons, Nat.succ_mul]
    have h1 := h a (List.mem_cons_self ..)
    have h2 := ih fun x hx => h x (List.mem_cons_of_mem _ hx)
    have := Int.natAbs_add_le a l.sum
    omega
def paidS (l : List (List Int × Int)) : Int := (l.map fun p => p.2).sum
theorem paid_le {legs : List Leg} (h : LegsOk 10 legs) {sizes : List Int} (hs : SzOk legs.length sizes) {stake : Int} (hk : 1 ≤ stake ∧ stake ≤ 1000) : (paidS (linesOf legs sizes stake)).natAbs ≤ 2 ^ 330 := by
  have hl := h.2.1
  have := szOk_len hs
  have h1 := sum_natAbs (l := (linesOf legs sizes stake).map fun p => p.2) (M := 2 ^ 310) fun x hx => by
    obtain ⟨p, hp, rfl⟩ := List.mem_map.mp hx
    obtain ⟨s, hs1, hp⟩ := List.mem_flatMap.mp hp
    obtain ⟨row, hr, rfl⟩ := List.mem_map.mp hp
    exact lineV_le h hk (rows_in _ row hr)
  rw [List.length_map] at h1
  have h2 := lines_len h stake sizes
  refine Nat.le_trans h1 ?_
  calc (linesOf legs sizes stake).length * 2 ^ 310 ≤ 2 ^ 14 * 2 ^ 310 := Nat.mul_le_mul_right _ (by show (sizes.flatMap (lnS legs stake)).length ≤ _; omega)
    _ = 2 ^ 324 := by rw [← Nat.pow_add]
    _ ≤ 2 ^ 330 := Nat.pow_le_pow_right (by decide) (by decide)
theorem last_in {row : List Int} (h : (!row.isEmpty) = true) : InB row.length (-(1 : Int)) := by
  have : 0 < row.length := by cases row <;> simp_all
  exact ⟨by omega, by omega⟩
theorem lines_in {legs : List Leg} {stake : Int} {pre : List (List Int × Int)} {l : List (List Int)} {i : Nat} {row : List Int} (h : l[i]? = some row) : (pre ++ (l.take i).map fun row => (row, lineV legs stake row)) ++ [(row, lineV legs stake row)] = pre ++ (l.take (i + 1)).map fun row => (row, lineV legs stake row) := by
  rw [List.append_assoc, ← map_take h]
theorem ret_qk {legs : List Leg} (h : LegsOk 10 legs) {sizes : List Int} (hs : SzOk legs.length sizes) {stake : Int} (hk : 1 ≤ stake ∧ stake ≤ 1000) : Qk 364 (sumE (legs.map facF) sizes * ((stake : Int) : Rat)) := by
  have := h.2.1
  have := szOk_len hs
  exact Qk_mul (sumE_qk (legs_fb h) (by rw [List.length_map]; omega) (by omega)) (int_qk (k := 64) (by omega))
end Nz

set_option exponentiation.threshold 10000
/-! slips: means -/
namespace Nz
open PySem PySem.Spec PyProof.Rows L2 RZ
/-- so many chances above 0, parts of 10 -/
def ChOk (r : Rat) : Prop := 1 ≤ r.num ∧ r.num ≤ (r.den : Int) ∧ r.den ∣ 10
def ChsOk (n : Nat) (l : List Rat) : Prop := l.length = n ∧ ∀ r ∈ l, ChOk r ∧ r.den ≤ 10
def meanF (legs : List Leg) (chances : List Rat) : List Rat := (legs.zip chances).map fun p => p.1.1 * p.2
theorem leg_fb2 {l : Leg} (h : LegOk l) : Bd (72 * 27720) 27720 l.1 := by
  obtain ⟨⟨h1, h2, h3⟩, _⟩ := h
  have hp := l.1.den_pos
  obtain ⟨q, hq⟩ := small_dvd ⟨hp, h1⟩
  have hq0 : 0 < q := by
    rcases Nat.eq_zero_or_pos q with z | z
    · subst z; simp at hq
    · exact z
  refine ⟨by decide, l.1.num * (q : Int), ?_, ?_⟩
  · rw [Int.natAbs_mul, Int.natAbs_natCast]
    exact Nat.mul_le_mul (by omega) (by rw [hq]; exact Nat.le_mul_of_pos_left _ hp)
  · conv => rhs; rw [hq]
    rw [Int.natCast_mul, Rat.divInt_mul_right (by omega), Rat.num_divInt_den]
theorem ch_bd {r : Rat} (h : ChOk r) : Bd 10 10 r := by
  obtain ⟨h1, h2, h3⟩ := h
  obtain ⟨q, hq⟩ := h3
  have hp := r.den_pos
  have hq0 : 0 < q := by
    rcases Nat.eq_zero_or_pos q with z | z
    · subst z; simp at hq
    · exact z
  refine ⟨by decide, r.num * (q : Int), ?_, ?_⟩
  · rw [Int.natAbs_mul, Int.natAbs_natCast]
    calc r.num.natAbs * q ≤ r.den * q := Nat.mul_le_mul_right _ (by omega)
      _ = 10 := hq.symm
  · conv => rhs; rw [hq]
    rw [Int.natCast_mul, Rat.divInt_mul_right (by omega), Rat.num_divInt_den]
theorem prod_fb {l : Leg} (h : LegOk l) {r : Rat} (hr : ChOk r) : FB (l.1 * r) := (Bd_mul (leg_fb2 h) (ch_bd hr)).mono (by decide)
theorem ch_fb {r : Rat} (h : ChOk r) : FB r := by
  obtain ⟨h1, h2, h3⟩ := h
  exact FB_of (by omega) (Nat.dvd_trans h3 (by decide))
theorem zip_in {legs : List Leg} {chances : List Rat} (h0 : LegsOk 10 legs) (h3 : ChsOk legs.length chances) {p : Leg × Rat} (hp : p ∈ legs.zip chances) : FB p.1.1 ∧ FB p.2 :=
  ⟨leg_fb (h0.2.2 _ (List.of_mem_zip hp).1), ch_fb (h3.2 _ (List.of_mem_zip hp).2).1⟩
theorem mean_fb {legs : List Leg} {chances : List Rat} (h0 : LegsOk 10 legs) (h3 : ChsOk legs.length chances) : ∀ x ∈ meanF legs chances, FB x := fun x hx => by
  obtain ⟨p, hp, rfl⟩ := List.mem_map.mp hx
  exact prod_fb (h0.2.2 _ (List.of_mem_zip hp).1) (h3.2 _ (List.of_mem_zip hp).2).1
theorem mean_len {legs : List Leg} {chances : List Rat} (h0 : LegsOk 10 legs) (h3 : ChsOk legs.length chances) : (meanF legs chances).length = legs.length := by
  unfold meanF; rw [List.length_map, List.length_zip, h3.1, Nat.min_self]
theorem chs_fb {n : Nat} {l : List Rat} (h : ChsOk n l) : ∀ x ∈ l, FB x := fun x hx => ch_fb (h.2 x hx).1
theorem prodQ_pos' {l : List Rat} : (∀ x ∈ l, 0 < x) → 0 < prodQ l := by
  refine snocInd (P := fun l => (∀ x ∈ l, 0 < x) → 0 < prodQ l) ?_ ?_ l
  · intro _; show (0 : Rat) < 1; decide +kernel
  · intro l x ih h
    rw [prodQ_snoc]
    exact Rat.mul_pos (ih fun y hy => h y (List.mem_append_left _ hy)) (h x (List.mem_append_right _ (List.mem_singleton.mpr rfl)))
theorem prodQ_pos {n : Nat} {l : List Rat} (h : ChsOk n l) : 0 < prodQ l := prodQ_pos' fun x hx => num_pos2 (by have := (h.2 x hx).1.1; omega)
theorem inv_div (r : Rat) : Rat.divInt (r.den : Int) r.num = r⁻¹ := by rw [Rat.inv_def]
end Nz

/-! k79: the prices in ascending order, by taking the least each time -/
namespace Nz
open PySem PySem.Spec PyProof.Rows L2 RZ
theorem lt_nd (x y : Rat) : decide (x.num * (y.den : Int) < y.num * (x.den : Int)) = decide (x < y) := by
  have := less_iff (a := x.num) (b := (x.den : Int)) (c := y.num) (d := (y.den : Int)) (by have := x.den_pos; omega) (by have := y.den_pos; omega)
  have e (r : Rat) : qv (r.num, (r.den : Int)) = r := qv_qp r
  rw [e, e] at this
  exact this
def bestI (l : List Rat) : Nat → Nat
  | 0 => 0
  | k + 1 => if decide ((ixG l (k : Int)).num * ((ixG l (bestI l k : Int)).den : Int) < (ixG l (bestI l k : Int)).num * ((ixG l (k : Int)).den : Int)) = true then k else bestI l k
theorem bestI_lt {l : List Rat} (h : 0 < l.length) : ∀ k, k ≤ l.length → bestI l k < l.length
  | 0, _ => h
  | k + 1, hk => by
    unfold bestI
    split
    · omega
    · exact bestI_lt h k (by omega)
theorem best_step {l : List Rat} {i : Nat} {p : Rat × Nat} (h : l.zipIdx[i]? = some p) : (if decide (p.1.num * ((ixG l (bestI l i : Int)).den : Int) < (ixG l (bestI l i : Int)).num * (p.1.den : Int)) = true then p.2 else bestI l i) = bestI l (i + 1) := by
  obtain ⟨h1, h2, h3⟩ := en_get h
  have e : ixG l (i : Int) = p.1 := ixG_nat h2
  have u : bestI l (i + 1) = if decide ((ixG l (i : Int)).num * ((ixG l (bestI l i : Int)).den : Int) < (ixG l (bestI l i : Int)).num * ((ixG l (i : Int)).den : Int)) = true then i else bestI l i := rfl
  rw [u, e, h1]
theorem best_then {l : List Rat} {i : Nat} {p : Rat × Nat} (h : l.zipIdx[i]? = some p) (hb : decide (p.1.num * ((ixG l (bestI l i : Int)).den : Int) < (ixG l (bestI l i : Int)).num * (p.1.den : Int)) = true) : PyData.int (p.2 : Int) = PyData.int ((bestI l (i + 1) : Nat) : Int) := by
  rw [← best_step h, if_pos hb]
theorem best_else {l : List Rat} {i : Nat} {p : Rat × Nat} (h : l.zipIdx[i]? = some p) (hb : decide (p.1.num * ((ixG l (bestI l i : Int)).den : Int) < (ixG l (bestI l i : Int)).num * (p.1.den : Int)) = false) : PyData.int ((bestI l i : Nat) : Int) = PyData.int ((bestI l (i + 1) : Nat) : Int) := by
  rw [← best_step h, if_neg (by rw [hb]; decide)]
theorem bestI_le {l : List Rat} : ∀ k, ∀ j, j < k → ixG l (bestI l k : Int) ≤ ixG l (j : Int)
  | 0, j, h => by omega
  | k + 1, j, h => by
    unfold bestI
    rw [lt_nd]
    by_cases hj : j = k
    · subst hj
      split
      · exact Rat.le_refl
      · rename_i q
        exact Rat.not_lt.mp (by simpa using q)
    · have := bestI_le (l := l) k j (by omega)
      split
      · rename_i q
        exact Rat.le_trans (Rat.le_of_lt (by simpa using q)) this
      · exact this
/-- the least, again and again -/
def selS : Nat → List Rat → List Rat
  | 0, _ => []
  | n + 1, l => if l = [] then [] else ixG l (bestI l l.length : Int) :: selS n (l.eraseIdx (bestI l l.length))
def SelP (l0 : List Rat) (a : List Rat × List Rat) : Prop := a.2 ++ selS a.1.length a.1 = selS l0.length l0 ∧ a.1.length + a.2.length = l0.length ∧ ∀ x ∈ a.1 ++ a.2, x ∈ l0
theorem selP_next {l0 : List Rat} {a : List Rat × List Rat} (h : SelP l0 a) (ha : a.1 ≠ []) : SelP l0 (a.1.eraseIdx (bestI a.1 a.1.length), a.2 ++ [ixG a.1 (bestI a.1 a.1.length : Int)]) ∧ (a.1.eraseIdx (bestI a.1 a.1.length)).length < a.1.length := by
  obtain ⟨h1, h2, h3⟩ := h
  have hp : 0 < a.1.length := by cases h : a.1 with | nil => exact absurd h ha | cons _ _ => simp
  have hb := bestI_lt hp a.1.length (Nat.le_refl _)
  have hl : (a.1.eraseIdx (bestI a.1 a.1.length)).length = a.1.length - 1 := List.length_eraseIdx_of_lt hb
  have hm : ixG a.1 (bestI a.1 a.1.length : Int) ∈ a.1 := ixG_mem (by omega)
  refine ⟨⟨?_, ?_, fun x hx => ?_⟩, by omega⟩
  · rw [hl]
    have e : selS a.1.length a.1 = ixG a.1 (bestI a.1 a.1.length : Int) :: selS (a.1.length - 1) (a.1.eraseIdx (bestI a.1 a.1.length)) := by
      obtain ⟨n, hn⟩ : ∃ n, a.1.length = n + 1 := ⟨a.1.length - 1, by omega⟩
      have e : ∀ m, m = n + 1 → selS m a.1 = ixG a.1 (bestI a.1 a.1.length : Int) :: selS (m - 1) (a.1.eraseIdx (bestI a.1 a.1.length)) := fun m hm => by
        subst hm
        exact if_neg ha
      exact e _ hn
    rw [← h1, e]; simp
  · rw [hl]; simp only [List.length_append, List.length_cons, List.length_nil]; omega
  · simp only [List.mem_append, List.mem_singleton] at hx
    rcases hx with hx | hx | hx
    · exact h3 x (List.mem_append_left _ (List.mem_of_mem_eraseIdx hx))
    · exact h3 x (List.mem_append_right _ hx)
    · subst hx; exact h3 _ (List.mem_append_left _ hm)
theorem sel_init (l0 : List Rat) : SelP l0 (l0, []) := ⟨rfl, by simp, fun x hx => by simpa using hx⟩
def pricesS (legs : List Leg) : List Rat := selS legs.length (legs.map fun l => l.1)
theorem sel_end {legs : List Leg} {a : List Rat × List Rat} (h : SelP (legs.map fun l => l.1) a) (hb : (!a.1.isEmpty) = false) : a.2 = pricesS legs := by
  show a.2 = selS legs.length (legs.map fun l => l.1)
  have e : a.1 = [] := by cases h : a.1 with | nil => rfl | cons _ _ => rw [h] at hb; cases hb
  have h1 := h.1
  rw [e, List.length_map] at h1
  simpa [selS] using h1
theorem sel_small {legs : List Leg} {a : List Rat × List Rat} (h0 : LegsOk 10 legs) (h : SelP (legs.map fun l => l.1) a) : ∀ x ∈ a.1, 1 ≤ x.den ∧ x.den ≤ 12 ∧ 1 ≤ x.num ∧ x.num ≤ 72 := fun x hx => by
  obtain ⟨l, hl, rfl⟩ := List.mem_map.mp (h.2.2 x (List.mem_append_left _ hx))
  have := (h0.2.2 l hl).1
  have hp := l.1.den_pos
  exact ⟨by omega, this.1, by omega, this.2.2⟩
end Nz

/-! k79: how few winners pay the stake back -/
namespace Nz
open PySem PySem.Spec PyProof.Rows L2 RZ
def wholeC (n : Nat) (sizes : List Int) : Int := (sizes.map fun s => chI (n : Int) s).sum
theorem whole_le {n : Nat} {sizes : List Int} (hn : n ≤ 10) (hs : SzOk n sizes) : 0 ≤ wholeC n sizes ∧ wholeC n sizes ≤ 10240 := by
  have h1 := sum_natAbs (l := sizes.map fun s => chI (n : Int) s) (M := 1024) fun x hx => by
    obtain ⟨s, _, rfl⟩ := List.mem_map.mp hx
    exact Nat.le_trans (chI_le (n := (n : Int)) (k := s)) (show 2 ^ (n : Int).toNat ≤ 2 ^ 10 from Nat.pow_le_pow_right (by decide) (by omega))
  have h2 := szOk_len hs
  rw [List.length_map] at h1
  have h3 : ∀ l : List Int, 0 ≤ (l.map fun s => chI (n : Int) s).sum := by
    intro l
    induction l with
    | nil => simp
    | cons a l ih => have := chI_nonneg (n : Int) a; simp only [List.map_cons, List.sum_cons]; omega
  have h4 := h3 sizes
  have h5 : sizes.length * 1024 ≤ 10 * 1024 := Nat.mul_le_mul_right _ (by omega)
  unfold wholeC
  omega
def enoughB (l : List Rat) (sizes : List Int) (w : Int) (m : Nat) : Bool := decide ((w : Rat) ≤ sumE (l.take m) sizes)
def leastF (l : List Rat) (sizes : List Int) (w : Int) (n : Nat) : Option Int := ((List.range (n + 1)).find? (enoughB l sizes w)).map fun m => (m : Int)
theorem le_nd (w : Int) (r : Rat) : decide (w * (r.den : Int) ≤ r.num) = decide ((w : Rat) ≤ r) := by
  have h := less_i (a := r.num) (b := (r.den : Int)) (c := w) (d := 1) (by have := r.den_pos; omega) (by decide)
  have e : qv (r.num, (r.den : Int)) = r := qv_qp r
  rw [e, qv_1, Int.mul_one] at h
  by_cases q : (w : Rat) ≤ r
  · rw [decide_eq_true q, decide_eq_true]
    have := mt h.mp (Rat.not_lt.mpr q)
    omega
  · rw [decide_eq_false q, decide_eq_false]
    have := h.mpr (Rat.not_le.mp q)
    omega
theorem find_rng {f : Nat → Bool} {n i : Nat} (h : ∀ j, j < i → f j = false) (hi : f i = true) (hn : i < n) : (List.range n).find? f = some i := by
  rw [List.find?_eq_some_iff_getElem]
  refine ⟨hi, i, by simpa using hn, by simp, fun j hj => ?_⟩
  simp [h j hj]
theorem least_some {l : List Rat} {sizes : List Int} {w : Int} {n i : Nat} {t : Rat} (h : ∀ j, j < i → enoughB l sizes w j = false) (ht : t = sumE (l.take i) sizes) (hb : decide (w * (t.den : Int) ≤ t.num) = true) (hn : i < n + 1) : PyData.int (i : Int) = eO PyData.int (leastF l sizes w n) := by
  have e : enoughB l sizes w i = true := by unfold enoughB; rw [← ht, ← le_nd]; exact hb
  unfold leastF
  rw [find_rng h e hn]; rfl
theorem least_next {l : List Rat} {sizes : List Int} {w : Int} {i : Nat} {t : Rat} (h : ∀ j, j < i → enoughB l sizes w j = false) (ht : t = sumE (l.take i) sizes) (hb : decide (w * (t.den : Int) ≤ t.num) = false) : ∀ j, j < i + 1 → enoughB l sizes w j = false := fun j hj => by
  by_cases e : j = i
  · subst e; unfold enoughB; rw [← ht, ← le_nd]; exact hb
  · exact h j (by omega)
theorem least_none {l : List Rat} {sizes : List Int} {w : Int} {n : Nat} (h : ∀ j, j < n + 1 → enoughB l sizes w j = false) : PyData.none = eO PyData.int (leastF l sizes w n) := by
  have e : (List.range (n + 1)).find? (enoughB l sizes w) = none := by
    rw [List.find?_eq_none]
    intro x hx
    rw [h x (List.mem_range.mp hx)]; decide
  unfold leastF
  rw [e]; rfl
theorem selS_mem : ∀ (n : Nat) (l : List Rat), ∀ x ∈ selS n l, x ∈ l
  | 0, l, x, hx => nomatch hx
  | n + 1, l, x, hx => by
    unfold selS at hx
    split at hx
    · exact nomatch hx
    · rename_i hl
      have hp : 0 < l.length := List.length_pos_iff.mpr hl
      have hb := bestI_lt hp l.length (Nat.le_refl _)
      rcases List.mem_cons.mp hx with rfl | hx
      · exact ixG_mem (by omega)
      · exact List.mem_of_mem_eraseIdx (selS_mem n _ x hx)
theorem selS_len : ∀ (n : Nat) (l : List Rat), l.length = n → (selS n l).length = n
  | 0, l, h => rfl
  | n + 1, l, h => by
    have hl : l ≠ [] := fun e => by rw [e] at h; exact nomatch h
    have hp : 0 < l.length := List.length_pos_iff.mpr hl
    have hb := bestI_lt hp l.length (Nat.le_refl _)
    unfold selS
    rw [if_neg hl, List.length_cons, selS_len n _ (by rw [List.length_eraseIdx_of_lt hb]; omega)]
theorem prices_len (legs : List Leg) : (pricesS legs).length = legs.length := selS_len _ _ (by rw [List.length_map])
theorem prices_fb {n : Nat} {legs : List Leg} (h : LegsOk n legs) : ∀ x ∈ pricesS legs, FB x := fun x hx => by
  obtain ⟨l, hl, rfl⟩ := List.mem_map.mp (selS_mem _ _ x hx)
  exact leg_fb (h.2.2 l hl)
theorem sum_skip {l : List Rat} {sizes : List Int} {i : Nat} {s : Int} {m : Nat} (h : sizes[i]? = some s) (hb : decide (s ≤ (m : Int)) = false) (hm : (l.take m).length ≤ m) : sumE (l.take m) (sizes.take i) = sumE (l.take m) (sizes.take (i + 1)) := by
  have e := take_sum (f := fun s : Int => eF (l.take m) s.toNat) h
  have hlt : (m : Int) < s := by simpa using hb
  have z : eF (l.take m) s.toNat = 0 := eF_gt _ _ (by omega)
  rw [z, Rat.add_zero] at e
  exact e
theorem cut_take {l : List Rat} {m : Nat} (h : m ≤ l.length) : eL eQ (cutX l none (some (m : Int))) = eL eQ (l.take m) := by rw [(cut_back l (m : Int) (by omega)).2]; rfl
end Nz

/-! k79: pools -/
namespace Nz
open PySem PySem.Spec PyProof.Rows L2 RZ
def PoolOk (bets : List Int) : Prop := 1 ≤ bets.length ∧ bets.length ≤ 20 ∧ ∀ b ∈ bets, 0 ≤ b ∧ b ≤ 1000000
def KeptOk (k : Rat) : Prop := 0 ≤ k.num ∧ k.num ≤ (k.den : Int) ∧ k.den ≤ 1000
def netP (bets : List Int) (kept : Rat) : Int := bets.sum * ((kept.den : Int) - kept.num) / (kept.den : Int)
def divF (share bet step : Int) : Int := share * 100 / bet / step * step
def backedF (bets winners : List Int) : List Int := winners.filter fun w => decide (0 < ixG bets w)
def ownF (bets winners : List Int) : Int := ((backedF bets winners).map fun w => ixG bets w).sum
def shareF (bets : List Int) (kept : Rat) (step : Int) (winners : List Int) (w : Int) : Option Int :=
  if ixG bets w = 0 then none else if netP bets kept - ownF bets winners ≤ 0 then some (if divF (ixG bets w * netP bets kept / ownF bets winners) (ixG bets w) step > 0 then divF (ixG bets w * netP bets kept / ownF bets winners) (ixG bets w) step else 0)
  else some (divF (ixG bets w + (netP bets kept - ownF bets winners) / ((backedF bets winners).length : Int)) (ixG bets w) step)
def winF (bets : List Int) (kept : Rat) (step : Int) (winners : List Int) : Option (List (Option Int)) :=
  if (!(backedF bets winners).isEmpty) = true then some (winners.map (shareF bets kept step winners)) else none
def paidF (bets winners : List Int) (ds : List (Option Int)) : Int := (((winners.zip ds).filter fun p => !(p.2).isNone).map fun p => ixG bets p.1 * (p.2).getD default / 100).sum
def leftF (bets : List Int) (kept : Rat) (step : Int) (winners : List Int) : Int :=
  if (winF bets kept step winners).isNone = true then bets.sum else bets.sum - paidF bets winners ((winF bets kept step winners).getD default)
def aloneAt (bets : List Int) (kept : Rat) (step : Int) (k : Int) : Option Int :=
  if (winF bets kept step [k]).isNone = true then none else ixG ((winF bets kept step [k]).getD default) 0
def aloneF (bets : List Int) (kept : Rat) (step : Int) : List (Option Int) := (List.range bets.length).map fun (k : Nat) => aloneAt bets kept step (k : Int)
def DivOk (l : List (Option Int)) : Prop := 1 ≤ l.length ∧ l.length ≤ 20 ∧ ∀ d ∈ l, ∀ x, d = some x → 0 ≤ x ∧ x ≤ 1000000
def betFor (money : Int) (d : Option Int) : Int := if d.isNone = true then 0 else -(-money * 100 / d.getD default)
def coverF (l : List (Option Int)) (money : Int) : Option (List Int) :=
  if some 0 ∈ l then none else if (l.map (betFor money)).sum < money then some (l.map (betFor money)) else none
def impF (bets : List Int) (kept : Rat) (step runner stake : Int) : Int :=
  divF (ixG bets runner + stake + (netP (bets.take runner.toNat ++ [ixG bets runner + stake] ++ bets.drop (runner.toNat + 1)) kept - (ixG bets runner + stake))) (ixG bets runner + stake) step
theorem sum_le {l : List Int} {M : Int} (h : ∀ x ∈ l, 0 ≤ x ∧ x ≤ M) (hM : 0 ≤ M) : 0 ≤ l.sum ∧ l.sum ≤ l.length * M := by
  induction l with
  | nil => simp
  | cons a l ih =>
    have h1 := h a (by simp)
    have h2 := ih fun x hx => h x (List.mem_cons_of_mem _ hx)
    simp only [List.sum_cons, List.length_cons, Int.natCast_add, Int.add_mul]
    omega
theorem pool_sum {bets : List Int} (h : PoolOk bets) : 0 ≤ bets.sum ∧ bets.sum ≤ 20000000 := by
  have h1 := sum_le h.2.2 (by decide)
  have := h.2.1
  omega
theorem kept_rng {k : Rat} (h : KeptOk k) : 0 < (k.den : Int) ∧ (k.den : Int) ≤ 1000 ∧ 0 ≤ (k.den : Int) - k.num ∧ (k.den : Int) - k.num ≤ 1000 := by
  have := k.den_pos
  have := h.1
  have := h.2.1
  have := h.2.2
  omega
theorem net_le {bets : List Int} {k : Rat} (h : 0 ≤ bets.sum) (hk : KeptOk k) : 0 ≤ netP bets k ∧ netP bets k ≤ bets.sum := by
  have hr := kept_rng hk
  have h1 : 0 ≤ bets.sum * ((k.den : Int) - k.num) := Int.mul_nonneg h hr.2.2.1
  have h2 : bets.sum * ((k.den : Int) - k.num) ≤ bets.sum * (k.den : Int) := Int.mul_le_mul_of_nonneg_left (by have := hk.1; omega) h
  refine ⟨Int.ediv_nonneg h1 (by omega), ?_⟩
  exact Int.le_trans (Int.ediv_le_ediv hr.1 h2) (by rw [Int.mul_ediv_cancel _ (by omega)]; exact Int.le_refl _)
theorem bet_at {bets : List Int} (h : PoolOk bets) {w : Int} (hw : 0 ≤ w ∧ w < bets.length) : 0 ≤ ixG bets w ∧ ixG bets w ≤ 1000000 := h.2.2 _ (ixG_mem hw)
theorem own_le {bets winners : List Int} (h : PoolOk bets) (hw : ∀ x ∈ winners, 0 ≤ x ∧ x < bets.length) (hl : winners.length ≤ 20) : 0 ≤ ownF bets winners ∧ ownF bets winners ≤ 20000000 := by
  have h1 := sum_le (l := (backedF bets winners).map fun w => ixG bets w) (M := 1000000) (fun x hx => by
    obtain ⟨w, hm, rfl⟩ := List.mem_map.mp hx
    exact bet_at h (hw w (List.mem_filter.mp hm).1)) (by decide)
  have h2 : (backedF bets winners).length ≤ winners.length := List.length_filter_le ..
  rw [List.length_map] at h1
  have h3 : ((backedF bets winners).length : Int) * 1000000 ≤ 20 * 1000000 := by omega
  unfold ownF
  omega
theorem own_pos {bets winners : List Int} (hb : (!(backedF bets winners).isEmpty) = true) : 0 < ownF bets winners := by
  have h1 : ∀ l : List Int, (∀ x ∈ l, 0 < ixG bets x) → l ≠ [] → 0 < (l.map fun w => ixG bets w).sum := by
    intro l
    induction l with
    | nil => intro _ h; exact absurd rfl h
    | cons a l ih =>
      intro h _
      have ha := h a (by simp)
      by_cases e : l = []
      · subst e; simpa using ha
      · have := ih (fun x hx => h x (List.mem_cons_of_mem _ hx)) e
        simp only [List.map_cons, List.sum_cons]; omega
  refine h1 _ (fun x hx => by simpa using (List.mem_filter.mp hx).2) fun e => ?_
  rw [e] at hb; cases hb
theorem win_len {n : Nat} {w : List Int} (h : w.Pairwise (· < ·)) (h2 : ∀ x ∈ w, 0 ≤ x ∧ x < (n : Int)) : w.length ≤ n := by
  have := asc_len (a := 0) (b := (n : Int) - 1) h (fun x hx => by have := h2 x hx; omega) (by omega)
  omega
def WinOk (n : Nat) (w : List Int) : Prop := w ≠ [] ∧ w.Pairwise (· < ·) ∧ ∀ x ∈ w, 0 ≤ x ∧ x < (n : Int)
theorem winOk_one {n : Nat} {k : Int} (h : 0 ≤ k ∧ k < (n : Int)) : WinOk n [k] := ⟨by simp, by simp, fun x hx => by simp at hx; subst hx; exact h⟩
theorem win_one {bets : List Int} {kept : Rat} {step k : Int} (h : (winF bets kept step [k]).isNone = false) : ((winF bets kept step [k]).getD default).length = 1 := by
  unfold winF at h ⊢
  split <;> rename_i q
  · rfl
  · rw [if_neg q] at h; cases h
theorem back_ne {bets winners : List Int} (h : (!!(backedF bets winners).isEmpty) = false) : (!(backedF bets winners).isEmpty) = true := by
  cases e : (backedF bets winners).isEmpty with
  | false => rfl
  | true => rw [e] at h; cases h
theorem back_pos {bets winners : List Int} (h : (!(backedF bets winners).isEmpty) = true) : 0 < ((backedF bets winners).length : Int) := by
  cases e : backedF bets winners with
  | nil => rw [e] at h; cases h
  | cons a l => simp only [List.length_cons]; omega
section
variable {bets winners : List Int} {kept : Rat} {step w : Int} {i : Nat}
theorem share_a (hx : winners[i]? = some w) (hc : decide (ixG bets w = 0) = true) : (winners.take i).map (shareF bets kept step winners) ++ [none] = (winners.take (i + 1)).map (shareF bets kept step winners) := by
  rw [← map_take hx]; unfold shareF; rw [if_pos (of_decide_eq_true hc)]
theorem share_b (hx : winners[i]? = some w) (hc : decide (ixG bets w = 0) = false) (hd : decide (netP bets kept - ownF bets winners ≤ 0) = true) : (winners.take i).map (shareF bets kept step winners) ++ [some (if divF (ixG bets w * netP bets kept / ownF bets winners) (ixG bets w) step > 0 then divF (ixG bets w * netP bets kept / ownF bets winners) (ixG bets w) step else 0)] = (winners.take (i + 1)).map (shareF bets kept step winners) := by
  rw [← map_take hx]; unfold shareF; rw [if_neg (of_decide_eq_false hc), if_pos (of_decide_eq_true hd)]
theorem share_c (hx : winners[i]? = some w) (hc : decide (ixG bets w = 0) = false) (hd : decide (netP bets kept - ownF bets winners ≤ 0) = false) : (winners.take i).map (shareF bets kept step winners) ++ [some (divF (ixG bets w + (netP bets kept - ownF bets winners) / ((backedF bets winners).length : Int)) (ixG bets w) step)] = (winners.take (i + 1)).map (shareF bets kept step winners) := by
  rw [← map_take hx]; unfold shareF; rw [if_neg (of_decide_eq_false hc), if_neg (of_decide_eq_false hd)]
theorem win_no (h : (!!(backedF bets winners).isEmpty) = true) : none = winF bets kept step winners := by
  unfold winF
  rw [if_neg fun e => by rw [e] at h; cases h]
theorem win_yes (h : (!(backedF bets winners).isEmpty) = true) : some (winners.map (shareF bets kept step winners)) = winF bets kept step winners := by
  unfold winF; rw [if_pos h]
theorem bet_pos (h : 0 ≤ ixG bets w ∧ ixG bets w ≤ 1000000) (hc : decide (ixG bets w = 0) = false) : 1 ≤ ixG bets w ∧ ixG bets w ≤ 1000000000 := by
  have := of_decide_eq_false hc
  omega
theorem back_in {x : Int} (h : x ∈ backedF bets winners) : x ∈ winners := (List.mem_filter.mp h).1
end
theorem left_a {bets winners : List Int} {kept : Rat} {step : Int} (h : WinOk bets.length winners) (hb : (winF bets kept step winners).isNone = false) (hp : PoolOk bets) (h1 : KeptOk kept) (hs : 1 ≤ step) :
    ((winF bets kept step winners).getD default).length = winners.length ∧ ∀ d ∈ (winF bets kept step winners).getD default, ∀ x, d = some x → 0 ≤ x := by
  unfold winF at hb ⊢
  split at hb <;> rename_i q
  · rw [if_pos q]
    refine ⟨by simp, fun d hd x hx => ?_⟩
    obtain ⟨w, hw, e⟩ := List.mem_map.mp (show d ∈ winners.map (shareF bets kept step winners) from hd)
    subst e
    have hwr := h.2.2 w hw
    have hbw := bet_at hp hwr
    unfold shareF at hx
    split at hx
    · cases hx
    · split at hx
      · cases hx; split <;> omega
      · cases hx
        rename_i h2 h3
        unfold divF
        have h4 : 0 ≤ (netP bets kept - ownF bets winners) / ((backedF bets winners).length : Int) := Int.ediv_nonneg (by omega) (by omega)
        exact Int.mul_nonneg (Int.ediv_nonneg (Int.ediv_nonneg (by omega) (by omega)) (by omega)) (by omega)
  · cases hb
theorem opt_pos {o : Option Int} (h : ∀ x, o = some x → 0 ≤ x) (hs : o.isSome = true) : 0 ≤ o.getD default := by
  cases o with
  | none => cases hs
  | some x => exact h x rfl
theorem opt_pos2 {o : Option Int} (h : ∀ x, o = some x → 0 ≤ x ∧ x ≤ 1000000) (hs : o.isSome = true) : 0 ≤ o.getD default ∧ o.getD default ≤ 1000000 := by
  cases o with
  | none => cases hs
  | some x => exact h x rfl
theorem zeros_no {l : List (Option Int)} (h : (!((l.filter fun o => PyData.eqv (eO PyData.int o) (PyData.int 0)).map fun _ => (1 : Int)).isEmpty) = true) : some 0 ∈ l := by
  cases e : l.filter fun o => PyData.eqv (eO PyData.int o) (PyData.int 0) with
  | nil => rw [e] at h; cases h
  | cons a m =>
    have ha : a ∈ l.filter fun o => PyData.eqv (eO PyData.int o) (PyData.int 0) := by rw [e]; simp
    obtain ⟨h1, h2⟩ := List.mem_filter.mp ha
    cases a with
    | none => cases h2
    | some x =>
      have : x = 0 := of_decide_eq_true ((eqv_int x 0).symm.trans h2)
      rw [← this]; exact h1
theorem zeros_yes {l : List (Option Int)} (h : (!((l.filter fun o => PyData.eqv (eO PyData.int o) (PyData.int 0)).map fun _ => (1 : Int)).isEmpty) = false) : some 0 ∉ l := fun hm => by
  have ha : some 0 ∈ l.filter fun o => PyData.eqv (eO PyData.int o) (PyData.int 0) := List.mem_filter.mpr ⟨hm, by rfl⟩
  cases e : l.filter fun o => PyData.eqv (eO PyData.int o) (PyData.int 0) with
  | nil => rw [e] at ha; cases ha
  | cons a m => rw [e] at h; cases h
theorem opt_ne {l : List (Option Int)} {o : Option Int} (h : some 0 ∉ l) (ho : o ∈ l) (hd : ∀ x, o = some x → 0 ≤ x ∧ x ≤ 1000000) (hs : o.isSome = true) : 1 ≤ o.getD default ∧ o.getD default ≤ 1000000 := by
  cases o with
  | none => cases hs
  | some x =>
    have := hd x rfl
    have : x ≠ 0 := fun e => h (e ▸ ho)
    show 1 ≤ x ∧ x ≤ 1000000
    omega
theorem cut_imp {l : List Int} {r s : Int} (h : 0 ≤ r ∧ r < l.length) : cutX l none (some r) ++ [s] ++ cutX l (some (r + 1)) none = l.take r.toNat ++ [s] ++ l.drop (r.toNat + 1) := by
  rw [(cut_back l r (by omega)).2, (cut_back l (r + 1) (by omega)).1]
  have : (r + 1).toNat = r.toNat + 1 := by omega
  rw [this]
theorem cover_no {l : List (Option Int)} {money : Int} (h : some 0 ∈ l) : none = coverF l money := by unfold coverF; rw [if_pos h]
theorem cover_yes {l : List (Option Int)} {money : Int} (h : some 0 ∉ l) : (if decide ((l.map (betFor money)).sum < money) = true then some (l.map (betFor money)) else none) = coverF l money := by
  unfold coverF; rw [if_neg h]; simp
def CovOk (l : List (Option Int)) (money : Int) (rows : List Int) : Prop := rows.length = l.length ∧ (∀ b ∈ rows, 0 ≤ b) ∧ (∀ p ∈ l.zip rows, ∀ x, p.1 = some x → money ≤ p.2 * x / 100) ∧ rows.sum < money
theorem cov_bool {p : Option Int × Int} {money : Int} (h : ∀ x, p.1 = some x → money ≤ p.2 * x / 100) : (p.1.isNone || decide (money ≤ p.2 * p.1.getD default / 100)) = true := by
  cases e : p.1 with
  | none => rfl
  | some x =>
    have := h x e
    simpa using this
theorem wide_ok {l : List Int} {r s : Int} (h : PoolOk l) (hr : 0 ≤ r ∧ r < l.length) (hs : 0 ≤ s ∧ s ≤ 2000000) :
    (l.take r.toNat ++ [s] ++ l.drop (r.toNat + 1)).length = l.length ∧ ixG (l.take r.toNat ++ [s] ++ l.drop (r.toNat + 1)) r = s ∧ (l.take r.toNat ++ [s] ++ l.drop (r.toNat + 1)).length ≤ 20 ∧ 0 ≤ (l.take r.toNat ++ [s] ++ l.drop (r.toNat + 1)).sum ∧ (l.take r.toNat ++ [s] ++ l.drop (r.toNat + 1)).sum ≤ 1000000000 := by
  have e1 : (l.take r.toNat ++ [s] ++ l.drop (r.toNat + 1)).length = l.length := by
    simp only [List.length_append, List.length_take, List.length_drop, List.length_cons, List.length_nil]; omega
  have e2 : (l.take r.toNat).length = r.toNat := by rw [List.length_take]; omega
  have h1 := sum_le (l := l.take r.toNat ++ [s] ++ l.drop (r.toNat + 1)) (M := 2000000) (fun x hx => by
    simp only [List.mem_append, List.mem_singleton] at hx
    rcases hx with (hx | hx) | hx
    · have := h.2.2 x (List.mem_of_mem_take hx); omega
    · omega
    · have := h.2.2 x (List.mem_of_mem_drop hx); omega) (by decide)
  have := h.2.1
  refine ⟨e1, ?_, by omega, h1.1, by rw [e1] at h1; omega⟩
  have e3 : r = (r.toNat : Int) := by omega
  rw [e3]
  refine ixG_nat ?_
  rw [Int.toNat_natCast, List.append_assoc, List.getElem?_append_right (by omega), e2, Nat.sub_self]
  rfl
theorem shaped_eO (o : Option Int) : SeqAt.shaped (eO PyData.int o) = true := by cases o <;> rfl
theorem cutX_le {α : Type} (l : List α) (a b : Option Int) : (cutX l a b).length ≤ l.length := by
  unfold cutX
  simp only [List.length_take, List.length_drop]
  omega
end Nz

/-! k79: what the law draws -/
namespace Nz
open PySem PySem.Spec PyProof.Rows L2 RZ
theorem q_parts {u d : Int} (hd : 0 < d) : ∃ g : Nat, 0 < g ∧ d = (g : Int) * ((Rat.divInt u d).den : Int) ∧ u = (g : Int) * (Rat.divInt u d).num := by
  have hg : 0 < d.gcd u := Int.gcd_pos_of_ne_zero_left _ (by omega)
  refine ⟨d.gcd u, hg, ?_, ?_⟩
  · rw [Rat.den_divInt, if_neg (by omega)]
    have h1 : d.gcd u ∣ d.natAbs := Int.ofNat_dvd.mp (by rw [Int.dvd_natAbs]; exact Int.gcd_dvd_left ..)
    have h2 := Nat.mul_div_cancel' h1
    have h3 : ((d.gcd u * (d.natAbs / d.gcd u) : Nat) : Int) = (d.natAbs : Int) := congrArg Nat.cast h2
    rw [Int.natCast_mul] at h3
    omega
  · rw [Rat.num_divInt, Int.sign_eq_one_of_pos hd, Int.one_mul]
    exact (Int.mul_ediv_cancel' (Int.gcd_dvd_right ..)).symm
theorem mul_le_cancel {g a b : Int} (hg : 0 < g) (h : g * a ≤ g * b) : a ≤ b := Int.le_of_mul_le_mul_left h hg
theorem le_gmul {g D : Int} (hg : 0 < g) (hD : 0 ≤ D) : D ≤ g * D := by
  have := Int.mul_le_mul_of_nonneg_right (show (1 : Int) ≤ g by omega) hD
  omega
theorem leg_q {u d : Int} (hd : 1 ≤ d ∧ d ≤ 12) (hu : d ≤ u ∧ u < 6 * d) : (Rat.divInt u d).den ≤ 12 ∧ ((Rat.divInt u d).den : Int) ≤ (Rat.divInt u d).num ∧ (Rat.divInt u d).num ≤ 72 := by
  obtain ⟨g, hg, h1, h2⟩ := q_parts (u := u) (d := d) (by omega)
  have hp := (Rat.divInt u d).den_pos
  generalize (Rat.divInt u d).den = D at *
  generalize (Rat.divInt u d).num = N at *
  have hg' : (0 : Int) < (g : Int) := by omega
  have e1 : (D : Int) ≤ d := by rw [h1]; exact le_gmul hg' (by omega)
  have e2 : (D : Int) ≤ N := mul_le_cancel hg' (by omega)
  have e3 : N ≤ 6 * (D : Int) := mul_le_cancel hg' (by
    rw [← h2]
    have : (g : Int) * (6 * (D : Int)) = 6 * ((g : Int) * (D : Int)) := by rw [Int.mul_left_comm]
    rw [this, ← h1]; omega)
  exact ⟨by omega, e2, by omega⟩
theorem leg_made {down : Int} (hd : 1 ≤ down ∧ down ≤ 12) {p : Leg} (h : (∃ x : Int × Int × Unit, ((∃ a b : Int, a = down ∧ (0 ≤ b ∧ b < (5 : Int) * down) ∧ x.1 = down + b) ∧ x.2.1 = down ∧ True) ∧ p.1 = Rat.divInt x.1 down) ∧ p.2 ∈ [wonS, wonS, lostS, voidS]) : LegOk p := by
  obtain ⟨⟨x, ⟨⟨a, b, rfl, hb, hx⟩, _⟩, hp⟩, hm⟩ := h
  refine ⟨?_, by simpa using hm⟩
  rw [hp]
  exact leg_q hd (by omega)
theorem legs_next {i : Nat} {b : List Leg} {p : Leg} (h : b.length = i ∧ ∀ l ∈ b, LegOk l) (hp : LegOk p) : (b ++ [p]).length = i + 1 ∧ ∀ l ∈ b ++ [p], LegOk l :=
  ⟨by rw [List.length_append, h.1]; rfl, fun l hl => by
    rcases List.mem_append.mp hl with hl | hl
    · exact h.2 l hl
    · rw [List.mem_singleton.mp hl]; exact hp⟩
theorem legs_done {n : Int} {b : List Leg} (h : ∃ x y : Int, x = 1 ∧ (0 ≤ y ∧ y < 10) ∧ n = 1 + y) (hb : b.length = (List.range n.toNat).length ∧ ∀ l ∈ b, LegOk l) : LegsOk 10 b := by
  obtain ⟨x, y, rfl, hy, hn⟩ := h
  rw [List.length_range] at hb
  exact ⟨by omega, by omega, hb.2⟩
theorem ch_made {y : Int} (hy : 0 ≤ y ∧ y < 9) : ChOk (Rat.divInt (1 + y) 10) ∧ (Rat.divInt (1 + y) 10).den ≤ 10 := by
  obtain ⟨g, hg, h1, h2⟩ := q_parts (u := 1 + y) (d := 10) (by omega)
  unfold ChOk
  have hp := (Rat.divInt (1 + y) 10).den_pos
  generalize (Rat.divInt (1 + y) 10).den = D at *
  generalize (Rat.divInt (1 + y) 10).num = N at *
  have hg' : (0 : Int) < (g : Int) := by omega
  have e1 : (D : Int) ≤ 10 := by rw [h1]; exact le_gmul hg' (by omega)
  refine ⟨⟨Int.lt_of_mul_lt_mul_left (a := (g : Int)) (b := 0) (c := N) (by omega) (by omega), mul_le_cancel hg' (by omega), g, ?_⟩, by omega⟩
  rw [Nat.mul_comm]
  exact Int.natCast_inj.mp (by rw [Int.natCast_mul]; exact h1)
theorem kept_made {y : Int} (hy : 0 ≤ y ∧ y < 101) : KeptOk (Rat.divInt y 100) ∧ (Rat.divInt y 100).den ≤ 100 := by
  obtain ⟨g, hg, h1, h2⟩ := q_parts (u := y) (d := 100) (by omega)
  unfold KeptOk
  have hp := (Rat.divInt y 100).den_pos
  generalize (Rat.divInt y 100).den = D at *
  generalize (Rat.divInt y 100).num = N at *
  have hg' : (0 : Int) < (g : Int) := by omega
  have e1 : (D : Int) ≤ 100 := by rw [h1]; exact le_gmul hg' (by omega)
  exact ⟨⟨mul_le_cancel hg' (by omega), mul_le_cancel hg' (by omega), by omega⟩, by omega⟩
/-! the law's products -/
def prL (n : Nat) (e : Nat → Rat) : List Rat := (List.range (n + 1)).map e
theorem prL_len (n : Nat) (e : Nat → Rat) : (prL n e).length = n + 1 := by unfold prL; rw [List.length_map, List.length_range]
theorem prL_at {n k : Nat} {e : Nat → Rat} (h : k ≤ n) : ixG (prL n e) (k : Int) = e k := ixG_rng (by omega)
theorem prL_end (l : List Rat) : prL l.length (eF l) = esF l := rfl
theorem prL_atI {n : Nat} {k : Int} {e : Nat → Rat} (h : 0 ≤ k ∧ k ≤ n) : ixG (prL n e) k = e k.toNat := by
  have : k = (k.toNat : Int) := by omega
  rw [this, prL_at (by omega)]; rfl
theorem prL_cons (n : Nat) (e : Nat → Rat) : prL n e = e 0 :: (List.range n).map fun k => e (k + 1) := by
  unfold prL
  rw [List.range_succ_eq_map, List.map_cons, List.map_map]; rfl
theorem prL_init (l : List Rat) (n : Nat) : [(1 : Rat)] ++ (List.replicate ((n : Int)).toNat [(0 : Rat)]).flatten = prL n (eF (l.take 0)) := by
  rw [prL_cons, Int.toNat_natCast, List.flatten_replicate_singleton]
  show 1 :: List.replicate n (0 : Rat) = 1 :: _
  congr 1
  apply List.ext_getElem
  · simp
  · intro i h1 h2
    simp only [List.getElem_replicate, List.getElem_map]
    rfl
theorem prL_step {l : List Rat} {n i : Nat} {x : Rat} (h : l[i]? = some x) :
    [ixG (prL n (eF (l.take i))) (0 : Int)] ++ (rngX (1 : Int) ((prL n (eF (l.take i))).length : Int)).map (fun (k : Int) => ixG (prL n (eF (l.take i))) k + ixG (prL n (eF (l.take i))) (k - (1 : Int)) * x) = prL n (eF (l.take (i + 1))) := by
  have e : eF (l.take (i + 1)) = stE (eF (l.take i)) x := by
    rw [List.take_succ, h]
    exact eF_snoc _ _
  rw [e, prL_cons n (stE _ _), prL_len]
  generalize eF (l.take i) = f
  show _ :: _ = _
  have e0 : ixG (prL n f) (0 : Int) = stE f x 0 := by rw [prL_atI (by omega)]; rfl
  rw [e0]
  congr 1
  unfold rngX
  rw [List.map_map]
  have : (((n + 1 : Nat) : Int) - 1).toNat = n := by omega
  rw [this]
  refine List.map_congr_left fun k hk => ?_
  have hk := List.mem_range.mp hk
  show ixG (prL n f) ((1 : Int) + (k : Int)) + ixG (prL n f) ((1 : Int) + (k : Int) - 1) * x = f (k + 1) + f k * x
  rw [prL_atI (by omega), prL_atI (by omega)]
  have e1 : ((1 : Int) + (k : Int)).toNat = k + 1 := by omega
  have e2 : ((1 : Int) + (k : Int) - 1).toNat = k := by omega
  rw [e1, e2]
end Nz

/-! k79: the prices in order, in two ways -/
namespace Nz
open PySem PySem.Spec PyProof.Rows L2 RZ
theorem perm_out {l : List Rat} {n : Nat} (h : n < l.length) : (ixG l (n : Int) :: l.eraseIdx n).Perm l := by
  have e : ixG l (n : Int) = l[n] := ixG_nat (List.getElem?_eq_getElem h)
  rw [e, List.eraseIdx_eq_take_drop_succ]
  have h2 : l = l.take n ++ l[n] :: l.drop (n + 1) := by rw [← List.drop_eq_getElem_cons h, List.take_append_drop]
  conv => rhs; rw [h2]
  exact List.perm_middle.symm
theorem selS_perm : ∀ (n : Nat) (l : List Rat), l.length = n → (selS n l).Perm l
  | 0, l, h => by rw [List.eq_nil_of_length_eq_zero h]; exact List.Perm.refl _
  | n + 1, l, h => by
    have hl : l ≠ [] := fun e => by rw [e] at h; exact nomatch h
    have hb := bestI_lt (l := l) (by omega) l.length (Nat.le_refl _)
    unfold selS
    rw [if_neg hl]
    exact ((selS_perm n _ (by rw [List.length_eraseIdx_of_lt hb]; omega)).cons _).trans (perm_out hb)
theorem selS_asc : ∀ (n : Nat) (l : List Rat), l.length = n → (selS n l).Pairwise (· ≤ ·)
  | 0, l, h => by unfold selS; exact List.Pairwise.nil
  | n + 1, l, h => by
    have hl : l ≠ [] := fun e => by rw [e] at h; exact nomatch h
    have hb := bestI_lt (l := l) (by omega) l.length (Nat.le_refl _)
    have hle : (l.eraseIdx (bestI l l.length)).length = n := by rw [List.length_eraseIdx_of_lt hb]; omega
    unfold selS
    rw [if_neg hl, List.pairwise_cons]
    refine ⟨fun x hx => ?_, selS_asc n _ hle⟩
    have hx2 := List.mem_of_mem_eraseIdx ((selS_perm n _ hle).mem_iff.mp hx)
    obtain ⟨j, hj, e⟩ := List.mem_iff_getElem.mp hx2
    have := bestI_le (l := l) l.length j hj
    have e2 : ixG l (j : Int) = x := ixG_nat (by rw [List.getElem?_eq_getElem hj, e])
    rw [e2] at this
    exact this
theorem prices_perm (legs : List Leg) : (pricesS legs).Perm (legs.map fun l => l.1) := selS_perm _ _ (by rw [List.length_map])
theorem prices_asc (legs : List Leg) : (pricesS legs).Pairwise (· ≤ ·) := selS_asc _ _ (by rw [List.length_map])
theorem pr_back {l : Leg} (h : LegOk l) : Rat.divInt (l.1.num * 27720 / (l.1.den : Int)) 27720 = l.1 := by
  have hp := l.1.den_pos
  obtain ⟨q, hq⟩ := small_dvd (d := l.1.den) ⟨hp, h.1.1⟩
  have e : l.1.num * 27720 / (l.1.den : Int) = l.1.num * (q : Int) := by
    have : l.1.num * 27720 = (l.1.num * (q : Int)) * (l.1.den : Int) := by
      have h2 : (27720 : Int) = (l.1.den : Int) * (q : Int) := by rw [← Int.natCast_mul, ← hq]; rfl
      rw [h2, Int.mul_assoc, Int.mul_comm (q : Int)]
    rw [this, Int.mul_ediv_cancel _ (by omega)]
  rw [e]
  have hq0 : q ≠ 0 := fun z => by rw [z] at hq; simp at hq
  have h2 : (27720 : Int) = (l.1.den : Int) * (q : Int) := by rw [← Int.natCast_mul, ← hq]; rfl
  rw [h2, Rat.divInt_mul_right (by omega), Rat.num_divInt_den]
def pricesL (legs : List Leg) : List Rat := (sortI (legs.map fun l => l.1.num * 27720 / (l.1.den : Int))).map fun p => Rat.divInt p 27720
theorem div_mono {a b : Int} (h : a ≤ b) : Rat.divInt a 27720 ≤ Rat.divInt b 27720 := by
  refine Rat.not_lt.mp fun q => ?_
  rw [divI, divI] at q
  have := (less_i (a := b) (b := 27720) (c := a) (d := 27720) (by decide) (by decide)).mpr (by unfold qv; rw [divI, divI]; exact q)
  omega
theorem pricesL_eq {n : Nat} {legs : List Leg} (h : LegsOk n legs) : pricesL legs = pricesS legs := by
  refine List.Perm.eq_of_pairwise (le := (· ≤ ·)) (fun a b _ _ h1 h2 => Rat.le_antisymm h1 h2) ?_ (prices_asc legs) ?_
  · unfold pricesL
    exact List.pairwise_map.mpr ((sortI_asc _).imp fun {a b} z => div_mono z)
  · refine List.Perm.trans ((sortI_perm _).map _) ?_
    rw [List.map_map]
    have : (legs.map ((fun p => Rat.divInt p 27720) ∘ fun l => l.1.num * 27720 / (l.1.den : Int))) = legs.map fun l => l.1 := List.map_congr_left fun l hl => pr_back (h.2.2 l hl)
    rw [this]
    exact (prices_perm legs).symm
theorem sum_part {l : List Rat} {m : Nat} (hm : (l.take m).length ≤ m) : ∀ sizes : List Int, ((sizes.filter fun k => decide (k ≤ (m : Int))).map fun k => eF (l.take m) k.toNat).sum = sumE (l.take m) sizes := by
  intro sizes
  unfold sumE
  induction sizes with
  | nil => rfl
  | cons a s ih =>
    rw [List.map_cons, List.sum_cons, ← ih]
    by_cases q : a ≤ (m : Int)
    · rw [List.filter_cons_of_pos (by simpa using q), List.map_cons, List.sum_cons]
    · rw [List.filter_cons_of_neg (by simpa using q), eF_gt (l.take m) a.toNat (by omega), Rat.zero_add]
theorem least_stop {l : List Rat} {sizes : List Int} {w : Int} {n i : Nat} {t : Rat} (h : ∀ j, j < i → enoughB l sizes w j = false) (ht : t = sumE (l.take i) sizes) (hb : (!decide (t < (w : Rat))) = true) (hn : i < n + 1) : PyData.int (i : Int) = eO PyData.int (leastF l sizes w n) := by
  have e : enoughB l sizes w i = true := by
    unfold enoughB; rw [← ht]
    exact decide_eq_true (Rat.not_lt.mp (by simpa using hb))
  unfold leastF
  rw [find_rng h e hn]; rfl
theorem least_on {l : List Rat} {sizes : List Int} {w : Int} {i : Nat} {t : Rat} (h : ∀ j, j < i → enoughB l sizes w j = false) (ht : t = sumE (l.take i) sizes) (hb : (!decide (t < (w : Rat))) = false) : ∀ j, j < i + 1 → enoughB l sizes w j = false := fun j hj => by
  by_cases e : j = i
  · subst e; unfold enoughB; rw [← ht]
    exact decide_eq_false (Rat.not_le.mpr (by simpa using hb))
  · exact h j (by omega)
theorem sum_pre {L : List Rat} (h : ∀ x ∈ L, FB x) (hl : L.length ≤ 11) {ks : List Int} (hk : ∀ k ∈ ks, 0 ≤ k ∧ k ≤ L.length) (hn : ks.length ≤ 16) :
    ∃ M D, (∀ r ∈ (true, ks.map fun k => ixG (esF L) k).2, Bd M D r) ∧ (((true, ks.map fun k => ixG (esF L) k).2 : List Rat).length + 1) * M < 2 ^ 4400 ∧ 0 < D ∧ D < 2 ^ 4400 := by
  refine ⟨2 ^ (26 * L.length), DD ^ L.length, fun r hr => ?_, ?_, Nat.pow_pos (by decide), Nat.lt_of_le_of_lt (DD_pow hl) (Nat.pow_lt_pow_right (by decide) (by decide))⟩
  · obtain ⟨k, hm, rfl⟩ := List.mem_map.mp hr
    show Bd _ _ (ixG (esF L) k)
    rw [esF_atI (hk k hm)]
    exact eF_eb h _
  · show ((ks.map fun k => ixG (esF L) k).length + 1) * _ < _
    rw [List.length_map]
    calc (ks.length + 1) * 2 ^ (26 * L.length) ≤ 2 ^ 5 * 2 ^ 286 := Nat.mul_le_mul (by omega) (Nat.pow_le_pow_right (by decide) (by omega))
      _ = 2 ^ 291 := by rw [← Nat.pow_add]
      _ < 2 ^ 4400 := Nat.pow_lt_pow_right (by decide) (by decide)
theorem sum_lw {l : List Rat} {m n : Nat} {sizes : List Int} (hm : (l.take m).length = m) (hs : SzOk n sizes) : ((sizes.filter fun (k : Int) => decide (k ≤ (m : Int))).map fun (k : Int) => ixG (esF (l.take m)) k).sum = sumE (l.take m) sizes := by
  rw [← sum_part (by omega) sizes]
  refine congrArg List.sum (List.map_congr_left fun k hk => ?_)
  obtain ⟨h1, h2⟩ := List.mem_filter.mp hk
  have h3 := hs.2.2 k h1
  have h4 : k ≤ (m : Int) := by simpa using h2
  exact esF_atI (by omega)
theorem filt_in {m n : Nat} {sizes : List Int} (hs : SzOk n sizes) {k : Int} (hk : k ∈ sizes.filter fun (k : Int) => decide (k ≤ (m : Int))) : 0 ≤ k ∧ k ≤ m := by
  obtain ⟨h1, h2⟩ := List.mem_filter.mp hk
  have h3 := hs.2.2 k h1
  have h4 : k ≤ (m : Int) := by simpa using h2
  omega
end Nz

/-! k79: the laws of slips -/
namespace Nz
open PySem PySem.Spec PyProof.Rows L2 RZ PySem.W
/-! all sizes together -/
theorem stE_sum (e : Nat → Rat) (x : Rat) : ∀ n : Nat, ((List.range (n + 1)).map (stE e x)).sum = ((List.range (n + 1)).map e).sum + ((List.range n).map e).sum * x
  | 0 => by simp [stE, Rat.zero_mul, Rat.add_zero]
  | n + 1 => by
    rw [List.range_succ (n := n + 1), List.map_append, List.sum_append, stE_sum e x n, List.map_append, List.sum_append]
    have h2 : ((List.range (n + 1)).map e).sum = ((List.range n).map e).sum + e n := by rw [List.range_succ, List.map_append, List.sum_append]; simp [Rat.add_zero]
    have h3 : (List.map (stE e x) [n + 1]).sum = e (n + 1) + e n * x := by simp [stE, Rat.add_zero]
    have h4 : (List.map e [n + 1]).sum = e (n + 1) := by simp [Rat.add_zero]
    rw [h3, h4, h2]
    grind
theorem eF_all (l : List Rat) : ((List.range (l.length + 1)).map (eF l)).sum = prodQ (l.map fun x => x + 1) := by
  induction l using snocInd with
  | h0 => simp [eF, e0, prodQ, Rat.add_zero]
  | h1 l x ih =>
    rw [List.map_append, List.map_singleton, prodQ_snoc, ← ih, eF_snoc, List.length_append, List.length_singleton, stE_sum]
    have h2 : ((List.range (l.length + 1 + 1)).map (eF l)).sum = ((List.range (l.length + 1)).map (eF l)).sum := by
      rw [List.range_succ (n := l.length + 1), List.map_append, List.sum_append]
      have : eF l (l.length + 1) = 0 := eF_gt l _ (by omega)
      simp [this, Rat.add_zero]
    rw [h2]
    grind
theorem sumE_all (l : List Rat) : sumE l (rngX (1 : Int) ((l.length : Int) + 1)) = prodQ (l.map fun x => x + 1) + -1 := by
  rw [← eF_all, List.range_succ_eq_map, List.map_cons, List.sum_cons, List.map_map]
  have e : eF l 0 = 1 := by
    induction l using snocInd with
    | h0 => rfl
    | h1 l x ih => rw [eF_snoc]; exact ih
  rw [e]
  unfold sumE rngX
  rw [List.map_map]
  have h : ((l.length : Int) + 1 - 1).toNat = l.length := by omega
  rw [h]
  have h2 : ((fun s : Int => eF l s.toNat) ∘ fun (i : Nat) => (1 : Int) + (i : Int)) = (eF l ∘ Nat.succ) := by
    funext i
    show eF l ((1 : Int) + (i : Int)).toNat = eF l (i + 1)
    congr 1; omega
  rw [h2]
  grind
/-! the order of the legs says nothing -/
theorem stE_comm (e : Nat → Rat) (x y : Rat) : stE (stE e x) y = stE (stE e y) x := by
  funext k
  match k with
  | 0 => rfl
  | 1 => show (e 1 + e 0 * x) + e 0 * y = (e 1 + e 0 * y) + e 0 * x; grind
  | k + 2 => show (e (k + 2) + e (k + 1) * x) + (e (k + 1) + e k * x) * y = (e (k + 2) + e (k + 1) * y) + (e (k + 1) + e k * y) * x; grind
theorem foldl_stE (l : List Rat) : ∀ (e : Nat → Rat) (x : Rat), l.foldl stE (stE e x) = stE (l.foldl stE e) x := by
  induction l with
  | nil => intro e x; rfl
  | cons a l ih => intro e x; rw [List.foldl_cons, List.foldl_cons, stE_comm, ih]
theorem eF_cons (x : Rat) (l : List Rat) : eF (x :: l) = stE (eF l) x := by
  unfold eF; rw [List.foldl_cons]; exact foldl_stE l e0 x
theorem eF_rev (l : List Rat) : eF l.reverse = eF l := by
  induction l with
  | nil => rfl
  | cons a l ih => rw [List.reverse_cons, eF_snoc, ih, eF_cons]
theorem sumE_rev (l : List Rat) (sizes : List Int) : sumE l.reverse sizes = sumE l sizes := by unfold sumE; rw [eF_rev]
theorem legsOk_rev {n : Nat} {legs : List Leg} (h : LegsOk n legs) : LegsOk n legs.reverse := ⟨by rw [List.length_reverse]; exact h.1, by rw [List.length_reverse]; exact h.2.1, fun l hl => h.2.2 l (List.mem_reverse.mp hl)⟩
/-! one leg more, void -/
theorem facF_void : facF ((3 : Rat), voidS) = 1 := by unfold facF; rfl
theorem legsOk_more {legs : List Leg} (h : LegsOk 10 legs) (hl : legs.length < 10) : LegsOk 10 (legs ++ [((3 : Rat), voidS)]) :=
  ⟨by rw [List.length_append]; simp, by rw [List.length_append]; simp; omega, fun l hm => by
    rcases List.mem_append.mp hm with hm | hm
    · exact h.2.2 l hm
    · rw [List.mem_singleton.mp hm]
      exact ⟨by decide +kernel, by simp⟩⟩
theorem eF_void (legs : List Leg) (k : Nat) : eF ((legs ++ [((3 : Rat), voidS)]).map facF) (k + 1) = eF (legs.map facF) (k + 1) + eF (legs.map facF) k := by
  rw [List.map_append, List.map_singleton, facF_void, eF_snoc]
  show _ + _ * 1 = _
  rw [Rat.mul_one]
theorem more_sum {legs : List Leg} {sizes : List Int} (hs : SzOk legs.length sizes) :
    sumE ((legs ++ [((3 : Rat), voidS)]).map facF) sizes = (sizes.map fun (k : Int) => ixG (esF (legs.map facF)) k + ixG (esF (legs.map facF)) (k - (1 : Int))).sum := by
  unfold sumE
  refine congrArg List.sum (List.map_congr_left fun k hk => ?_)
  have h := hs.2.2 k hk
  have hl : (legs.map facF).length = legs.length := List.length_map ..
  rw [esF_atI (by omega), esF_atI (by omega)]
  have e : k.toNat = (k - 1).toNat + 1 := by omega
  rw [e]
  exact eF_void legs _
/-! the sizes -/
def szF (many : Int) (sizes : List Int) : List Int := if (!sizes.isEmpty) = true then sizes else [many]
theorem szF_ok {n : Nat} {sizes : List Int} (hn : 1 ≤ n) (h : sizes.Sublist ((rngX (1 : Int) ((n : Int) + 1)).map fun x => x)) : SzOk n (szF (n : Int) sizes) := by
  rw [List.map_id'] at h
  unfold szF
  split <;> rename_i q
  · refine ⟨fun e => (by rw [e] at q; cases q), List.Pairwise.sublist h ?_, fun s hs => ?_⟩
    · unfold rngX
      exact List.pairwise_map.mpr (List.pairwise_lt_range.imp fun {a b} z => by omega)
    · have := rngX_mem.mp (h.subset hs); omega
  · exact ⟨by simp, by simp, fun s hs => by simp at hs; subst hs; omega⟩
theorem rng_ok {n : Nat} (hn : 1 ≤ n) : SzOk n (rngX (1 : Int) ((n : Int) + 1)) := by
  have h := szF_ok (n := n) (sizes := rngX (1 : Int) ((n : Int) + 1)) hn (by rw [List.map_id']; exact List.Sublist.refl _)
  unfold szF at h
  rw [if_pos] at h
  · exact h
  · have : (rngX (1 : Int) ((n : Int) + 1)).length = n := by unfold rngX; rw [List.length_map, List.length_range]; omega
    cases e : rngX (1 : Int) ((n : Int) + 1) with
    | nil => rw [e] at this; simp at this; omega
    | cons a l => rfl
theorem szOk_up {n : Nat} {sizes : List Int} (h : SzOk n sizes) : SzOk (n + 1) sizes := ⟨h.1, h.2.1, fun s hs => by have := h.2.2 s hs; omega⟩
theorem szOk_ix {n : Nat} {sizes : List Int} (h : SzOk n sizes) {k : Int} (hk : k ∈ sizes) : 0 ≤ k ∧ k ≤ n := by have := h.2.2 k hk; omega
theorem due_sum {l : List Rat} {n : Nat} (hl : l.length = n) {sizes : List Int} (h : SzOk n sizes) : (sizes.map fun (k : Int) => ixG (esF l) k).sum = sumE l sizes := by
  unfold sumE
  exact congrArg List.sum (List.map_congr_left fun k hk => esF_atI (by have := szOk_ix h hk; omega))
/-! every factor and one more -/
theorem fac_bd {l : Leg} (h : LegOk l) : Bd (72 * 27720) 27720 (facF l) := by
  unfold facF
  split
  · exact leg_fb2 h
  · split
    · exact Bd_zero (by decide)
    · exact (Bd_one (by decide)).mono (by decide)
theorem fac1_fb {l : Leg} (h : LegOk l) : FB (facF l + 1) := by
  have h1 := Bd_add (fac_bd h) (Bd_one (D := 27720) (by decide))
  have h2 := Bd_mul h1 (Bd_one (D := 10) (by decide))
  rw [Rat.mul_one] at h2
  exact h2.mono (by decide)
/-! the lines in order -/
def LexL (p q : List Int) : Prop := ∃ (pre : List Int) (a b : Int) (s t : List Int), p = pre ++ a :: s ∧ q = pre ++ b :: t ∧ a < b
theorem LexL.no {p q : List Int} (h : LexL p q) : ¬ q < p := by
  obtain ⟨pre, a, b, s, t, rfl, rfl, hab⟩ := h
  induction pre with
  | nil =>
    intro hc
    rw [List.nil_append, List.nil_append, List.cons_lt_cons_iff] at hc
    omega
  | cons x pre ih =>
    intro hc
    rw [List.cons_append, List.cons_append, List.cons_lt_cons_iff] at hc
    rcases hc with hc | ⟨_, hc⟩
    · omega
    · exact ih hc
theorem LexL.up {p q : List Int} (h : LexL p q) (o o' : Int) : LexL (p ++ [o]) (q ++ [o']) := by
  obtain ⟨pre, a, b, s, t, rfl, rfl, hab⟩ := h
  exact ⟨pre, a, b, s ++ [o], t ++ [o'], by simp, by simp, hab⟩
theorem rows_lex (n : Int) : ∀ k, (rowsOf n k).Pairwise LexL
  | 0 => by unfold rowsOf; simp
  | k + 1 => by
    show ((rowsOf n k).flatMap (extR n)).Pairwise LexL
    rw [List.pairwise_flatMap]
    refine ⟨fun row _ => ?_, (rows_lex n k).imp fun {a b} h x hx y hy => ?_⟩
    · unfold extR rngX
      rw [List.map_map]
      exact List.pairwise_map.mpr (List.pairwise_lt_range.imp fun {a b} z => ⟨row, nxR row + (a : Int), nxR row + (b : Int), [], [], rfl, rfl, by omega⟩)
    · obtain ⟨o, _, rfl⟩ := List.mem_map.mp hx
      obtain ⟨o', _, rfl⟩ := List.mem_map.mp hy
      exact h.up o o'
abbrev LR := Int × List Int
abbrev eLR : LR → PyData := eP PyData.int (eT PyData.int)
def LrLe (p q : LR) : Prop := p.1 < q.1 ∨ (p.1 = q.1 ∧ LexL p.2 q.2)
theorem alike_ints : ∀ xs ys : List Int, alikeAll (xs.map .int) (ys.map .int) = true
  | [], _ => by cases ‹List Int› <;> rfl
  | _ :: _, [] => rfl
  | x :: xs, y :: ys => by
    show (alike (.int x) (.int y) && alikeAll (xs.map .int) (ys.map .int)) = true
    rw [alike_ints xs ys]; rfl
theorem lr_alike (p q : LR) : alike (eLR p) (eLR q) = true := by
  show (alike (.int p.1) (.int q.1) && (alike (.tuple (p.2.map .int)) (.tuple (q.2.map .int)) && alikeAll [] [])) = true
  have : alike (.tuple (p.2.map .int)) (.tuple (q.2.map .int)) = true := alike_ints _ _
  rw [this]; rfl
theorem LrLe.data {p q : LR} (h : LrLe p q) : dataLe false eLR p q = true := by
  show (!dataLt (.tuple [.int q.1, .tuple (q.2.map .int)]) (.tuple [.int p.1, .tuple (p.2.map .int)])) = true
  rw [dataLt_pair rfl (show alike (.tuple (q.2.map .int)) (.tuple (p.2.map .int)) = true from alike_ints _ _)]
  rcases h with h | ⟨h, h2⟩
  · have e1 : PyData.eqv (.int q.1) (.int p.1) = false := by rw [eqv_int]; exact decide_eq_false (by omega)
    rw [e1, if_neg (by decide), dataLt_int]
    have : ¬ q.1 < p.1 := by omega
    simp [this]
  · have e2 : dataLt (.tuple (q.2.map .int)) (.tuple (p.2.map .int)) = false := by
      rw [dataLt_tuple]
      show rowLt _ _ = false
      rw [dataLt_ints]
      exact decide_eq_false h2.no
    rw [e2, h, eqv_int, decide_eq_true rfl, if_pos rfl]
    split <;> rfl
def lrOf (l : List (List Int × Int)) : List LR := l.map fun r => ((r.1.length : Int), r.1)
theorem lines_asc (legs : List Leg) (stake : Int) {n : Nat} {sizes : List Int} (h : SzOk n sizes) : (lrOf (linesOf legs sizes stake)).Pairwise LrLe := by
  unfold lrOf linesOf
  refine List.pairwise_map.mpr ?_
  rw [List.pairwise_flatMap]
  refine ⟨fun s hs => ?_, h.2.1.imp_of_mem fun {s t} hs ht hst x hx y hy => ?_⟩
  · unfold lnS
    refine List.pairwise_map.mpr ((rows_lex legs.length s.toNat).imp_of_mem fun {a b} ha hb z => Or.inr ⟨?_, z⟩)
    show (a.length : Int) = (b.length : Int)
    rw [(rows_in s.toNat a ha).1, (rows_in s.toNat b hb).1]
  · obtain ⟨a, ha, rfl⟩ := List.mem_map.mp hx
    obtain ⟨b, hb, rfl⟩ := List.mem_map.mp hy
    refine Or.inl ?_
    show (a.length : Int) < (b.length : Int)
    rw [(rows_in s.toNat a ha).1, (rows_in t.toNat b hb).1]
    have := h.2.2 s hs
    omega
theorem lr_id (legs : List Leg) (stake : Int) {n : Nat} {sizes : List Int} (h : SzOk n sizes) : sortX eLR (lrOf (linesOf legs sizes stake)) = lrOf (linesOf legs sizes stake) :=
  sortX_id ((lines_asc legs stake h).imp fun {a b} z => z.data)
theorem lines_cnt (legs : List Leg) (stake : Int) {sizes : List Int} (h : SzOk legs.length sizes) : ((linesOf legs sizes stake).length : Int) = wholeC legs.length sizes := by
  unfold linesOf wholeC
  have key : ∀ l : List Int, (∀ s ∈ l, 1 ≤ s ∧ s ≤ legs.length) → ((l.flatMap (lnS legs stake)).length : Int) = (l.map fun s => chI (legs.length : Int) s).sum := by
    intro l
    induction l with
    | nil => intro _; rfl
    | cons a l ih =>
      intro hl
      have ha := hl a (by simp)
      rw [List.flatMap_cons, List.length_append, Int.natCast_add, ih fun s hs => hl s (List.mem_cons_of_mem _ hs), List.map_cons, List.sum_cons]
      congr 1
      unfold lnS
      rw [List.length_map, rows_len (by omega)]
      have e : a = (a.toNat : Int) := by omega
      conv => rhs; rw [e, chI_nat]
      rw [Int.toNat_natCast]
  exact key sizes h.2.2
end Nz

/-! k79: the steps of the law of slips -/
namespace Nz
open PySem PySem.Spec PyProof.Rows L2 RZ PySem.W
theorem due_pb {l : List Rat} {n : Nat} (hl : l.length = n) (hf : ∀ x ∈ l, FB x) (hn : n ≤ 10) {sizes : List Int} (h : SzOk n sizes) : Pb (qp ((true, sizes.map fun (k : Int) => ixG (esF l) k) : Bool × List Rat).2.sum) := by
  show Pb (qp (sizes.map fun (k : Int) => ixG (esF l) k).sum)
  rw [due_sum hl h]
  have := szOk_len h
  exact ((sumE_qk hf (by omega) (by omega)).qb (by decide)).pb
theorem slip_gd {r : Rat} {a b : Int} (h : Qk 364 r) (ha : a.natAbs < 2 ^ 64) (hb : b.natAbs < 2 ^ 64) : Gd 20 15000000 (eL id [eQ r, PyData.int a, PyData.int b]) :=
  (gd_list (k := 1) (l := 1209) (n := 3) (fun d hd => by
    have hd : d = eQ r ∨ d = .int a ∨ d = .int b := by simpa using hd
    rcases hd with rfl | rfl | rfl
    · exact h.gd (by decide)
    · exact (gd_int (Nat.lt_of_lt_of_le ha (Nat.pow_le_pow_right (by decide) (by decide)))).mono (by decide) (by decide)
    · exact (gd_int (Nat.lt_of_lt_of_le hb (Nat.pow_le_pow_right (by decide) (by decide)))).mono (by decide) (by decide)) (by simp)).mono (by decide) (by decide)
theorem prod1_step {legs : List Leg} {i : Nat} {x : Leg} (h : legs[i]? = some x) : prodQ ((legs.take i).map fun l => facF l + 1) * (facF x + qv ((1 : Int), (1 : Int))) = prodQ ((legs.take (i + 1)).map fun l => facF l + 1) := by
  rw [qv_1, List.take_succ, h]
  show _ = prodQ ((legs.take i ++ [x]).map _)
  rw [List.map_append, List.map_singleton, prodQ_snoc]
  rfl
theorem prod1_qk {legs : List Leg} (h : LegsOk 10 legs) (i : Nat) : Qk 300 (prodQ ((legs.take i).map fun l => facF l + 1)) :=
  prodQ_qk (fun x hx => by
    obtain ⟨l, hl, rfl⟩ := List.mem_map.mp hx
    exact fac1_fb (h.2.2 l (List.mem_of_mem_take hl))) (by rw [List.length_map, List.length_take]; have := h.2.1; omega)
theorem every_eq {legs : List Leg} {stake : Int} : sumE (legs.map facF) (rngX (1 : Int) ((legs.length : Int) + 1)) * ((stake : Int) : Rat) = (prodQ ((legs.take legs.length).map fun l => facF l + 1) + qv (-(1 : Int), (1 : Int))) * qv (stake, (1 : Int)) := by
  have e := sumE_all (legs.map facF)
  rw [List.length_map, List.map_map] at e
  rw [e, qv_1, qv_1, List.take_length]
  rfl
theorem every_qk {legs : List Leg} (h : LegsOk 10 legs) : Qk 302 (prodQ ((legs.take legs.length).map fun l => facF l + 1) + qv (-(1 : Int), (1 : Int))) := by
  rw [qv_1]
  exact (Qk_add (prod1_qk h _) (int_qk (k := 1) (by decide))).mono (by decide)
theorem canT : ∀ l : List Int, PyData.canLayAll0 (l.map .int) = true
  | [] => rfl
  | a :: l => by
    show PyData.canLayAll0 (.int a :: l.map .int) = true
    rw [PyData.canLayAll0, canT l]; rfl
theorem canLT : ∀ l : List (List Int), PyData.canLayAll0 (l.map (eT PyData.int)) = true
  | [] => rfl
  | a :: l => by
    show PyData.canLayAll0 (eT PyData.int a :: l.map (eT PyData.int)) = true
    rw [PyData.canLayAll0, canLT l, show PyData.canLay0 (eT PyData.int a) = true from by rw [PyData.canLay0]; exact canT a]; rfl
theorem depT : ∀ l : List Int, PyData.depthAll (l.map .int) ≤ 0
  | [] => Nat.le_refl _
  | a :: l => by
    show PyData.depthAll (.int a :: l.map .int) ≤ 0
    rw [PyData.depthAll]
    have := depT l
    have h : (PyData.int a).depth = 0 := rfl
    omega
theorem depLT : ∀ l : List (List Int), PyData.depthAll (l.map (eT PyData.int)) ≤ 1
  | [] => by decide
  | a :: l => by
    show PyData.depthAll (eT PyData.int a :: l.map (eT PyData.int)) ≤ 1
    rw [PyData.depthAll]
    have := depLT l
    have h : (eT PyData.int a).depth ≤ 1 := by rw [PyData.depth]; have := depT a; omega
    omega
theorem lay_LT (l : List (List Int)) : PyData.canLay0 (eL (eT PyData.int) l) = true := by rw [PyData.canLay0]; exact canLT l
theorem shaped_LT (l : List (List Int)) : SeqAt.shaped (eL (eT PyData.int) l) = true := by
  unfold SeqAt.shaped
  rw [lay_LT]
  refine decide_eq_true (Nat.le_trans (show PyData.depth (eL (eT PyData.int) l) ≤ 2 by rw [PyData.depth]; have := depLT l; omega) (by decide))
theorem lr_same (legs : List Leg) (stake : Int) {sizes : List Int} (h : SzOk legs.length sizes) :
    PyData.eqv (eL (eT PyData.int) ((linesOf legs sizes stake).map fun (x : List Int × Int) => x.1)) (eL (eT PyData.int) ((sortX (eP PyData.int (eT PyData.int)) (lrOf (linesOf legs sizes stake))).map fun (x : Int × List Int) => x.2)) = true := by
  have e : (sortX (eP PyData.int (eT PyData.int)) (lrOf (linesOf legs sizes stake))).map (fun (x : Int × List Int) => x.2) = (linesOf legs sizes stake).map fun (x : List Int × Int) => x.1 := by
    rw [show sortX (eP PyData.int (eT PyData.int)) (lrOf (linesOf legs sizes stake)) = _ from lr_id legs stake h]
    unfold lrOf
    rw [List.map_map]; rfl
  rw [e]
  refine SeqAt.eqv_refl _ ?_
  exact lay_LT _
theorem lr_depth (p : LR) : (eLR p).depth ≤ 50 := by
  rw [PyData.depth]
  have h : PyData.depthAll [PyData.int p.1, eT PyData.int p.2] ≤ 1 := by
    rw [PyData.depthAll, PyData.depthAll, PyData.depthAll]
    have h : (eT PyData.int p.2).depth ≤ 1 := by rw [PyData.depth]; have := depT p.2; omega
    have h : (PyData.int p.1).depth = 0 := rfl
    omega
  omega
theorem paid_neg (legs : List Leg) (sizes : List Int) (stake : Int) : qv ((0 : Int) - ((linesOf legs sizes stake).map fun (x : List Int × Int) => x.2).sum, (1 : Int)) = ((-paidS (linesOf legs sizes stake) : Int) : Rat) := by
  rw [qv_1]
  show (((0 : Int) - paidS (linesOf legs sizes stake) : Int) : Rat) = _
  rw [Int.zero_sub]
theorem paid_pb {legs : List Leg} {sizes : List Int} {stake : Int} (h : (paidS (linesOf legs sizes stake)).natAbs ≤ 2 ^ 330) : Pb ((0 : Int) - ((linesOf legs sizes stake).map fun (x : List Int × Int) => x.2).sum, (1 : Int)) := by
  refine ⟨?_, show (1 : Int) ≠ 0 by decide, ?_⟩
  · show ((0 : Int) - paidS (linesOf legs sizes stake)).natAbs < _
    rw [Int.zero_sub, Int.natAbs_neg]
    exact Nat.lt_of_le_of_lt h (Nat.pow_lt_pow_right (by decide) (by decide))
  · exact Nat.one_lt_two_pow (by decide)
theorem chs_made {R : Leg → Rat → Prop} {legs : List Leg} {l : List Rat} (h : Fa R legs l) (hR : ∀ x z, R x z → ∃ y : Int, (0 ≤ y ∧ y < 9) ∧ z = Rat.divInt (1 + y) 10) : ChsOk legs.length l := ⟨h.len, fun r hr => by
  obtain ⟨x, _, hx⟩ := h.mem r hr
  obtain ⟨y, hy, rfl⟩ := hR x r hx
  exact ch_made hy⟩
theorem mean_rng {legs : List Leg} {l : List Rat} {n : Nat} (h0 : LegsOk 10 legs) (h : ChsOk legs.length l) (hn : n = legs.length) : ((List.range n).map fun (k : Nat) => (ixG legs (k : Int)).1 * ixG l (k : Int)) = meanF legs l := by
  subst hn
  unfold meanF
  apply List.ext_getElem?
  intro i
  rw [List.getElem?_map, List.getElem?_map]
  by_cases q : i < legs.length
  · have q2 : i < l.length := by rw [h.1]; exact q
    have e1 : ixG legs (i : Int) = legs[i] := ixG_nat (List.getElem?_eq_getElem q)
    have e2 : ixG l (i : Int) = l[i] := ixG_nat (List.getElem?_eq_getElem q2)
    rw [List.getElem?_range q, List.getElem?_eq_getElem (show i < (legs.zip l).length by rw [List.length_zip]; omega), List.getElem_zip]
    show some ((ixG legs (i : Int)).1 * ixG l (i : Int)) = some (legs[i].1 * l[i])
    rw [e1, e2]
  · rw [List.getElem?_eq_none (by simpa using q), List.getElem?_eq_none (by rw [List.length_zip]; omega)]; rfl
theorem price_step {l : List Rat} {i : Nat} {x : Rat} (h : l[i]? = some x) : (prodQ (l.take i))⁻¹ * qv ((x.den : Int), x.num) = (prodQ (l.take (i + 1)))⁻¹ := by
  rw [← prod_step h, Rat.inv_mul_rev, Rat.mul_comm]
  show Rat.divInt _ _ * _ = _
  rw [inv_div]
theorem inv_qk' {k : Nat} {r : Rat} (h : Qk k r) (hp : 0 < r) : Qk k r⁻¹ := by
  have := Qk_div (j := 0) (show Qk 0 (1 : Rat) from ⟨by decide, by decide⟩) h hp
  rw [Rat.div_def, Rat.one_mul, Nat.zero_add] at this
  exact this
theorem price_qk {n : Nat} {l : List Rat} (hn : n ≤ 10) (h : ChsOk n l) (i : Nat) : Qk 300 (prodQ (l.take i))⁻¹ :=
  inv_qk' (prodQ_qk (fun x hx => chs_fb h x (List.mem_of_mem_take hx)) (by rw [List.length_take, h.1]; omega)) (prodQ_pos' fun x hx => num_pos2 (by have := (h.2 x (List.mem_of_mem_take hx)).1.1; omega))
theorem ch_pb {r : Rat} (h : ChOk r ∧ r.den ≤ 10) : Pb ((r.den : Int), r.num) := by
  obtain ⟨⟨h1, h2, _⟩, h3⟩ := h
  exact pb_small (by omega) (by omega) (by omega)
theorem two_gd {r q : Rat} (h : Qk 364 r) (h2 : Qk 300 q) : Gd 20 15000000 (eL eQ [r, q]) :=
  (gd_L (k := 1) (len := 1209) (n := 2) (fun x hx => by
    rcases mem2 hx with rfl | rfl
    · exact h.gd (by decide)
    · exact h2.gd (by decide)) (by simp)).mono (by decide) (by decide)
theorem least_gd {l : List Rat} {sizes : List Int} {w : Int} {n : Nat} (hn : n ≤ 10) : Gd 20 15000000 (eO PyData.int (leastF l sizes w n)) := by
  unfold leastF
  cases e : (List.range (n + 1)).find? (enoughB l sizes w) with
  | none => exact gd_none.mono (by decide) (by decide)
  | some m =>
    have := List.mem_range.mp (List.mem_of_find?_eq_some e)
    exact (gd_int (i := (m : Int)) (Nat.lt_of_lt_of_le (show (m : Int).natAbs < 2 ^ 64 by omega) (Nat.pow_le_pow_right (by decide) (by decide)))).mono (by decide) (by decide)
theorem stake_whole {a b : Int} (ha : 1 ≤ a ∧ a ≤ 1000) (hb : 0 ≤ b ∧ b ≤ 10240) : (a * b).natAbs < 2 ^ 64 := by
  rw [Int.natAbs_mul]
  exact Nat.lt_of_le_of_lt (Nat.mul_le_mul (show a.natAbs ≤ 1000 by omega) (show b.natAbs ≤ 10240 by omega)) (by decide)
theorem lr_al (l : List LR) : AllAlike (l.map (eP PyData.int (eT PyData.int))) := AllAlike.of fun p q => lr_alike p q
theorem lr_so (l : List LR) : Sortable (l.map (eP PyData.int (eT PyData.int))) := Sortable.tuples fun p => ⟨_, _, rfl⟩
theorem row_qk {l : List Rat} {n : Nat} (hl : l.length = n) (hf : ∀ x ∈ l, FB x) (hn : n ≤ 10) {k : Int} (hk : 0 ≤ k ∧ k ≤ n) : Qk 300 (ixG (esF l) k) := by
  rw [esF_atI (by omega)]
  exact EB_qk (by omega) (eF_eb hf _)
theorem more_pre {l : List Rat} {n : Nat} (hl : l.length = n) (hf : ∀ x ∈ l, FB x) (hn : n ≤ 10) {sizes : List Int} (h : SzOk n sizes) :
    ∃ M D, (∀ r ∈ (true, sizes.map fun (k : Int) => ixG (esF l) k + ixG (esF l) (k - (1 : Int))).2, Bd M D r) ∧ (((true, sizes.map fun (k : Int) => ixG (esF l) k + ixG (esF l) (k - (1 : Int))).2 : List Rat).length + 1) * M < 2 ^ 4400 ∧ 0 < D ∧ D < 2 ^ 4400 := by
  have hs := szOk_len h
  refine ⟨2 ^ (26 * l.length) + 2 ^ (26 * l.length), DD ^ l.length, fun r hr => ?_, ?_, Nat.pow_pos (by decide), Nat.lt_of_le_of_lt (DD_pow (by omega)) (Nat.pow_lt_pow_right (by decide) (by decide))⟩
  · obtain ⟨k, hm, rfl⟩ := List.mem_map.mp hr
    have hk := h.2.2 k hm
    show Bd _ _ (ixG (esF l) k + ixG (esF l) (k - 1))
    rw [esF_atI (by omega), esF_atI (by omega)]
    exact Bd_add (eF_eb hf _) (eF_eb hf _)
  · show ((sizes.map fun (k : Int) => ixG (esF l) k + ixG (esF l) (k - (1 : Int))).length + 1) * _ < _
    rw [List.length_map]
    have e : 2 ^ (26 * l.length) + 2 ^ (26 * l.length) = 2 ^ (26 * l.length + 1) := two_pow _
    rw [e]
    calc (sizes.length + 1) * 2 ^ (26 * l.length + 1) ≤ 2 ^ 5 * 2 ^ 287 := Nat.mul_le_mul (by omega) (Nat.pow_le_pow_right (by decide) (by omega))
      _ = 2 ^ 292 := by rw [← Nat.pow_add]
      _ < 2 ^ 4400 := Nat.pow_lt_pow_right (by decide) (by decide)
theorem more_pb {legs : List Leg} (h0 : LegsOk 10 legs) (hl : legs.length < 10) {sizes : List Int} (h : SzOk legs.length sizes) : Pb (qp ((true, sizes.map fun (k : Int) => ixG (esF (legs.map facF)) k + ixG (esF (legs.map facF)) (k - (1 : Int))) : Bool × List Rat).2.sum) := by
  show Pb (qp (sizes.map fun (k : Int) => ixG (esF (legs.map facF)) k + ixG (esF (legs.map facF)) (k - (1 : Int))).sum)
  rw [← more_sum h]
  have := szOk_len h
  exact ((sumE_qk (legs_fb (legsOk_more h0 hl)) (by rw [List.length_map, List.length_append]; simp; omega) (by omega)).qb (by decide)).pb
theorem more_eq {legs : List Leg} {sizes : List Int} {stake : Int} (h : SzOk legs.length sizes) :
    sumE ((legs ++ [((3 : Rat), voidS)]).map facF) sizes * ((stake : Int) : Rat) = ((true, sizes.map fun (k : Int) => ixG (esF (legs.map facF)) k + ixG (esF (legs.map facF)) (k - (1 : Int))) : Bool × List Rat).2.sum * qv (stake, (1 : Int)) := by
  rw [qv_1, more_sum h]
theorem more_one {legs : List Leg} (h : 1 ≤ legs.length) : ixG (esF ((legs ++ [((3 : Rat), voidS)]).map facF)) (1 : Int) = ixG (esF (legs.map facF)) (1 : Int) + qv ((1 : Int), (1 : Int)) := by
  rw [qv_1, esF_atI (by rw [List.length_map, List.length_append]; simp; omega), esF_atI (by rw [List.length_map]; omega)]
  show eF _ (0 + 1) = eF _ (0 + 1) + _
  rw [eF_void]
  have e : ∀ l : List Rat, eF l 0 = 1 := by
    intro l
    induction l using snocInd with
    | h0 => rfl
    | h1 l x ih => rw [eF_snoc]; exact ih
  rw [e]; rfl
theorem fair_eq {l : List Rat} {n : Nat} (hl : l.length = n) {sizes : List Int} (h : SzOk n sizes) {stake : Int} {cs : List Rat} :
    eL eQ [sumE l sizes * ((stake : Int) : Rat), (prodQ cs)⁻¹] = eL eQ [((true, sizes.map fun (k : Int) => ixG (esF l) k) : Bool × List Rat).2.sum * qv (stake, (1 : Int)), (prodQ (cs.take cs.length))⁻¹] := by
  rw [List.take_length, qv_1]
  show _ = eL eQ [(sizes.map fun (k : Int) => ixG (esF l) k).sum * _, _]
  rw [due_sum hl h]
theorem fair_gd {l : List Rat} {n : Nat} (hl : l.length = n) (hf : ∀ x ∈ l, FB x) (hn : n ≤ 10) {sizes : List Int} (h : SzOk n sizes) {stake : Int} (hs : 1 ≤ stake ∧ stake ≤ 1000) {cs : List Rat} (hc : ChsOk n cs) :
    Gd 20 15000000 (eL eQ [sumE l sizes * ((stake : Int) : Rat), (prodQ cs)⁻¹]) := by
  have h1 := szOk_len h
  have h2 := price_qk hn hc cs.length
  rw [List.take_length] at h2
  exact two_gd ((Qk_mul (sumE_qk hf (by omega) (by omega)) (int_qk (k := 64) (by omega))).mono (by decide)) h2
theorem price_init (l : List Rat) : (1 : Rat) = (prodQ (l.take 0))⁻¹ := by
  rw [List.take_zero]; decide +kernel
end Nz

/-! k79: the laws of pools -/
namespace Nz
open PySem PySem.Spec PyProof.Rows L2 RZ PySem.W
def capF (l : List (Option Int)) : List (Option Int) := l.map fun (p : Option Int) => if (p.isNone || decide (1000000 < p.getD default)) = true then none else p
theorem pool_made {many top : Int} {bets : List Int} (hmn : 1 ≤ many ∧ many ≤ 20) (ht : top = 3 ∨ top = 100 ∨ top = 1000000) (h : Fa (fun (k : Nat) (z : Int) => 0 ≤ z ∧ z < top + 1) (List.range many.toNat) bets) : PoolOk bets := by
  have hl := h.len
  rw [List.length_range] at hl
  refine ⟨by omega, by omega, fun b hb => ?_⟩
  obtain ⟨k, _, hk⟩ := h.mem b hb
  omega
theorem kept_draw {kept : Rat} (h : ∃ x : Int × Int × Unit, ((0 ≤ x.1 ∧ x.1 < 101) ∧ x.2.1 = 100 ∧ True) ∧ kept = Rat.divInt x.1 100) : KeptOk kept := by
  obtain ⟨x, ⟨hx, _⟩, rfl⟩ := h
  exact (kept_made hx).1
theorem wins_made {bets winners v : List Int} {many : Int} (hbl : (bets.length : Int) = many) (hmn : 1 ≤ many ∧ many ≤ 20) (hs : winners.Sublist ((List.range many.toNat).map fun (x : Nat) => (x : Int)))
    (h : (true = (!winners.isEmpty) ∧ v = winners) ∨ (false = (!winners.isEmpty) ∧ ∃ z : Int, (0 ≤ z ∧ z < many) ∧ v = [z])) : WinOk bets.length v := by
  rcases h with ⟨h1, rfl⟩ | ⟨_, z, hz, rfl⟩
  · refine ⟨fun e => (by rw [e] at h1; cases h1), List.Pairwise.sublist hs ?_, fun x hx => ?_⟩
    · exact List.pairwise_map.mpr (List.pairwise_lt_range.imp fun {a b} z => by omega)
    · obtain ⟨k, hk, rfl⟩ := List.mem_map.mp (hs.subset hx)
      have := List.mem_range.mp hk
      omega
  · exact winOk_one (by omega)
theorem no_filter {α β : Type} {l : List α} {p : α → Bool} {f : α → β} (h : ∀ x ∈ l, p x = false) : (!((l.filter p).map f).isEmpty) = false := by
  have e : l.filter p = [] := List.filter_eq_nil_iff.mpr fun x hx => by rw [h x hx]; decide
  rw [e]; rfl
section
variable {bets winners : List Int} {kept : Rat} {step : Int}
/-! nobody paid -/
theorem t1 (hp : PoolOk bets) (hw : WinOk bets.length winners) (h : (winF bets kept step winners).isNone = true) :
    (decide ((0 : Int) < (winners.map fun (x : Int) => ixG bets x).sum) || (!decide (leftF bets kept step winners = bets.sum))) = false := by
  have hb : backedF bets winners = [] := by
    cases e : backedF bets winners with
    | nil => rfl
    | cons a l =>
      unfold winF at h
      rw [if_pos (by rw [e]; rfl)] at h
      cases h
  have hz : ∀ l : List Int, (∀ x ∈ l, ixG bets x ≤ 0) → (l.map fun (x : Int) => ixG bets x).sum ≤ 0 := by
    intro l
    induction l with
    | nil => intro _; simp
    | cons a l ih =>
      intro hl
      have h1 := hl a (by simp)
      have h2 := ih fun x hx => hl x (List.mem_cons_of_mem _ hx)
      simp only [List.map_cons, List.sum_cons]; omega
  have h0 := hz winners fun x hx => by
    have := List.filter_eq_nil_iff.mp hb x hx
    simpa using this
  have e1 : leftF bets kept step winners = bets.sum := by unfold leftF; rw [if_pos h]
  rw [e1, decide_eq_false (by omega)]
  simp
theorem share_some (hb : ixG bets w ≠ 0) : ∃ x, shareF bets kept step winners w = some x := by
  unfold shareF
  rw [if_neg hb]
  split <;> exact ⟨_, rfl⟩
theorem win_get (h : (winF bets kept step winners).isNone = false) : (winF bets kept step winners).getD default = winners.map (shareF bets kept step winners) ∧ (!(backedF bets winners).isEmpty) = true := by
  unfold winF at h ⊢
  split at h <;> rename_i q
  · rw [if_pos q]; exact ⟨rfl, q⟩
  · cases h
theorem div_mod (a b s : Int) : divF a b s % s = 0 := Int.mul_emod_left ..
theorem share_mod {w x : Int} (hx : shareF bets kept step winners w = some x) : x % step = 0 := by
  unfold shareF at hx
  split at hx
  · cases hx
  · split at hx
    · cases hx
      split
      · exact div_mod _ _ _
      · exact Int.zero_emod _
    · cases hx; exact div_mod _ _ _
theorem t2 (hs : 1 ≤ step) (h : (winF bets kept step winners).isNone = false) :
    ((!decide (leftF bets kept step winners = bets.sum - paidF bets winners ((winF bets kept step winners).getD default))) || (!((((winF bets kept step winners).getD default).filter fun (x : Option Int) => (!x.isNone) && decide ((0 : Int) < x.getD default % step)).map fun (x : Option Int) => x).isEmpty)) = false := by
  have e1 : leftF bets kept step winners = bets.sum - paidF bets winners ((winF bets kept step winners).getD default) := by
    unfold leftF; rw [if_neg (by rw [h]; decide)]
  rw [no_filter (fun x hx => ?_), e1]
  · simp
  · rw [(win_get h).1] at hx
    obtain ⟨w, _, rfl⟩ := List.mem_map.mp hx
    cases e : shareF bets kept step winners w with
    | none => rfl
    | some y =>
      have := share_mod e
      show (true && decide ((0 : Int) < y % step)) = false
      rw [this]; rfl
/-- what one winner is paid -/
theorem pay_one {a b s : Int} (hb : 0 < b) (hs : 0 < s) : b * divF a b s / 100 ≤ a := by
  unfold divF
  have h1 : a * 100 / b / s * s ≤ a * 100 / b := Int.ediv_mul_le _ (by omega)
  have h2 : b * (a * 100 / b / s * s) ≤ b * (a * 100 / b) := Int.mul_le_mul_of_nonneg_left h1 (by omega)
  have h3 : b * (a * 100 / b) ≤ a * 100 := Int.mul_ediv_self_le (by omega)
  have h4 : b * (a * 100 / b / s * s) / 100 ≤ a * 100 / 100 := Int.ediv_le_ediv (by decide) (by omega)
  rw [Int.mul_ediv_cancel _ (by decide)] at h4
  exact h4
theorem sum_up {l : List Int} {a b : Int → Int} (h : ∀ x ∈ l, a x ≤ b x) : (l.map a).sum ≤ (l.map b).sum := by
  induction l with
  | nil => simp
  | cons x l ih =>
    have h1 := h x (by simp)
    have h2 := ih fun y hy => h y (List.mem_cons_of_mem _ hy)
    simp only [List.map_cons, List.sum_cons]; omega
theorem sum_part2 (p : Int → Bool) (c : Int → Int) (l : List Int) : (l.map fun w => if p w = true then c w else 0).sum = ((l.filter p).map c).sum := by
  induction l with
  | nil => rfl
  | cons x l ih =>
    by_cases q : p x = true
    · rw [List.filter_cons_of_pos q]; simp only [List.map_cons, List.sum_cons, if_pos q, ih]
    · rw [List.filter_cons_of_neg q]; simp only [List.map_cons, List.sum_cons, if_neg q, ih]; omega
theorem sum_div {d : Int} (hd : 0 < d) (x : Int → Int) (l : List Int) : (l.map fun w => x w / d).sum * d ≤ (l.map x).sum := by
  induction l with
  | nil => simp
  | cons a l ih =>
    have := Int.ediv_mul_le (x a) (show d ≠ 0 by omega)
    simp only [List.map_cons, List.sum_cons, Int.add_mul]; omega
theorem sum_mulr (n : Int) (x : Int → Int) (l : List Int) : (l.map fun w => x w * n).sum = (l.map x).sum * n := by
  induction l with
  | nil => simp
  | cons a l ih => simp only [List.map_cons, List.sum_cons, Int.add_mul, ih]
theorem sum_addc (n : Int) (x : Int → Int) (l : List Int) : (l.map fun w => x w + n).sum = (l.map x).sum + (l.length : Int) * n := by
  induction l with
  | nil => simp
  | cons a l ih =>
    simp only [List.map_cons, List.sum_cons, ih, List.length_cons, Int.natCast_add, Int.add_mul]; omega
theorem paid_sum (f : Int → Option Int) (ws : List Int) : paidF bets ws (ws.map f) = (ws.map fun w => if (f w).isNone = true then 0 else ixG bets w * (f w).getD default / 100).sum := by
  unfold paidF
  induction ws with
  | nil => rfl
  | cons w ws ih =>
    rw [List.map_cons, List.zip_cons_cons]
    by_cases q : (f w).isNone = true
    · rw [List.filter_cons_of_neg (by simp [q]), ih]
      simp only [List.map_cons, List.sum_cons, if_pos q]; omega
    · rw [List.filter_cons_of_pos (p := fun p : Int × Option Int => !p.2.isNone) (a := (w, f w)) (show (!(f w).isNone) = true by cases e : f w with | none => exact absurd (by rw [e]; rfl) q | some _ => rfl)]
      simp only [List.map_cons, List.sum_cons, if_neg q, ih]
theorem share_lo {w : Int} (h : 0 < ixG bets w) (g : netP bets kept - ownF bets winners ≤ 0) : shareF bets kept step winners w = some (if divF (ixG bets w * netP bets kept / ownF bets winners) (ixG bets w) step > 0 then divF (ixG bets w * netP bets kept / ownF bets winners) (ixG bets w) step else 0) := by
  unfold shareF; rw [if_neg (by omega), if_pos g]
theorem share_hi {w : Int} (h : 0 < ixG bets w) (g : ¬ netP bets kept - ownF bets winners ≤ 0) : shareF bets kept step winners w = some (divF (ixG bets w + (netP bets kept - ownF bets winners) / ((backedF bets winners).length : Int)) (ixG bets w) step) := by
  unfold shareF; rw [if_neg (by omega), if_neg g]
theorem share_no {w : Int} (h : ixG bets w = 0) : shareF bets kept step winners w = none := by unfold shareF; rw [if_pos h]
theorem t3 (hp : PoolOk bets) (hk : KeptOk kept) (hs : 1 ≤ step) (hw : WinOk bets.length winners) (h : (winF bets kept step winners).isNone = false) :
    decide (bets.sum * ((kept.den : Int) - kept.num) / (kept.den : Int) < paidF bets winners ((winF bets kept step winners).getD default)) = false := by
  refine decide_eq_false (Int.not_lt.mpr ?_)
  obtain ⟨e, hne⟩ := win_get h
  have hown := own_pos hne
  have hbp := back_pos hne
  have hn := (net_le (pool_sum hp).1 hk).1
  show _ ≤ netP bets kept
  rw [e, paid_sum]
  have hz : ∀ w ∈ winners, ¬ decide (0 < ixG bets w) = true → ixG bets w = 0 := fun w hm q => by
    have := (bet_at hp (hw.2.2 w hm)).1
    simp at q; omega
  by_cases g : netP bets kept - ownF bets winners ≤ 0
  · have h1 : (winners.map fun w => if (shareF bets kept step winners w).isNone = true then 0 else ixG bets w * (shareF bets kept step winners w).getD default / 100).sum ≤ (winners.map fun w => if decide (0 < ixG bets w) = true then ixG bets w * netP bets kept / ownF bets winners else 0).sum := sum_up fun w hm => by
      by_cases q : decide (0 < ixG bets w) = true
      · have q0 : 0 < ixG bets w := of_decide_eq_true q
        rw [if_pos q, share_lo q0 g]
        show ixG bets w * (if _ then _ else _) / 100 ≤ _
        split
        · exact pay_one q0 (by omega)
        · rw [Int.mul_zero]
          exact Int.ediv_nonneg (Int.mul_nonneg (by omega) hn) (by omega)
      · have q0 := hz w hm q
        rw [if_neg q, share_no q0]
        exact Int.le_refl _
    rw [sum_part2] at h1
    have h2 := sum_div hown (fun w => ixG bets w * netP bets kept) (backedF bets winners)
    rw [sum_mulr] at h2
    change _ ≤ ((backedF bets winners).map _).sum at h1
    have h3 : ((backedF bets winners).map fun w => ixG bets w * netP bets kept / ownF bets winners).sum ≤ netP bets kept := by
      refine Int.le_of_mul_le_mul_right (a := ownF bets winners) ?_ hown
      rw [Int.mul_comm (netP bets kept)]
      exact h2
    exact Int.le_trans h1 h3
  · have h1 : (winners.map fun w => if (shareF bets kept step winners w).isNone = true then 0 else ixG bets w * (shareF bets kept step winners w).getD default / 100).sum ≤ (winners.map fun w => if decide (0 < ixG bets w) = true then ixG bets w + (netP bets kept - ownF bets winners) / ((backedF bets winners).length : Int) else 0).sum := sum_up fun w hm => by
      by_cases q : decide (0 < ixG bets w) = true
      · have q0 : 0 < ixG bets w := of_decide_eq_true q
        rw [if_pos q, share_hi q0 g]
        exact pay_one q0 (by omega)
      · have q0 := hz w hm q
        rw [if_neg q, share_no q0]
        exact Int.le_refl _
    rw [sum_part2] at h1
    change _ ≤ ((backedF bets winners).map _).sum at h1
    rw [sum_addc] at h1
    have h2 := Int.mul_ediv_self_le (x := netP bets kept - ownF bets winners) (k := ((backedF bets winners).length : Int)) (by omega)
    have h3 : (List.map (ixG bets) (backedF bets winners)).sum = ownF bets winners := rfl
    omega
/-! one winner alone -/
theorem one_zero {k : Int} (h : ixG bets k = 0) : winF bets kept step [k] = none := by
  unfold winF backedF
  have e : [k].filter (fun w => decide (0 < ixG bets w)) = [] := by simp [h]
  rw [e]; rfl
theorem one_win {k : Int} (hp : PoolOk bets) (hk : KeptOk kept) (hs : 1 ≤ step) (h : 0 < ixG bets k) : winF bets kept step [k] = some [some (divF (netP bets kept) (ixG bets k) step)] := by
  have e : backedF bets [k] = [k] := by unfold backedF; simp [h]
  have eo : ownF bets [k] = ixG bets k := by unfold ownF; rw [e]; simp
  have hn := (net_le (pool_sum hp).1 hk).1
  unfold winF
  rw [e]
  show some (List.map (shareF bets kept step [k]) [k]) = _
  have e2 : shareF bets kept step [k] k = some (divF (netP bets kept) (ixG bets k) step) := by
    unfold shareF
    rw [if_neg (by omega), eo, e]
    split
    · rw [Int.mul_ediv_cancel_left _ (show ixG bets k ≠ 0 by omega)]
      split
      · rfl
      · rename_i q
        have : 0 ≤ divF (netP bets kept) (ixG bets k) step := Int.mul_nonneg (Int.ediv_nonneg (Int.ediv_nonneg (by omega) (by omega)) (by omega)) (by omega)
        congr 1; omega
    · have e3 : ixG bets k + (netP bets kept - ixG bets k) / (([k] : List Int).length : Int) = netP bets kept := by
        show _ + _ / (1 : Int) = _
        rw [Int.ediv_one]; omega
      rw [e3]
  rw [List.map_singleton, e2]
theorem alone_at {k : Int} (hp : PoolOk bets) (hk : KeptOk kept) (hs : 1 ≤ step) (h : 0 ≤ k ∧ k < bets.length) : aloneAt bets kept step k = if ixG bets k = 0 then none else some (divF (netP bets kept) (ixG bets k) step) := by
  unfold aloneAt
  by_cases q : ixG bets k = 0
  · rw [one_zero q, if_pos q]; rfl
  · have := (bet_at hp h).1
    rw [one_win hp hk hs (by omega), if_neg q]; rfl
theorem alone_ix {k : Nat} (h : k < bets.length) : ixG (aloneF bets kept step) (k : Int) = aloneAt bets kept step (k : Int) := by
  unfold aloneF
  exact ixG_nat (by rw [List.getElem?_map, List.getElem?_range h]; rfl)
theorem pool_rev (hp : PoolOk bets) : PoolOk bets.reverse := ⟨by rw [List.length_reverse]; exact hp.1, by rw [List.length_reverse]; exact hp.2.1, fun b hb => hp.2.2 b (List.mem_reverse.mp hb)⟩
theorem ix_rev {l : List Int} {k : Nat} (h : k < l.length) : ixG l.reverse (k : Int) = ixG l ((l.length - 1 - k : Nat) : Int) := by
  refine ixG_nat ?_
  rw [List.getElem?_reverse h, List.getElem?_eq_getElem (by omega)]
  exact congrArg some (ixG_nat (List.getElem?_eq_getElem (by omega))).symm
theorem alone_rev (hp : PoolOk bets) (hk : KeptOk kept) (hs : 1 ≤ step) : (aloneF bets kept step).reverse = aloneF bets.reverse kept step := by
  have en : netP bets.reverse kept = netP bets kept := by unfold netP; rw [List.sum_reverse]
  unfold aloneF
  rw [rev_rng, List.length_reverse]
  refine List.map_congr_left fun k hm => ?_
  have hk' := List.mem_range.mp hm
  rw [alone_at hp hk hs (by omega), alone_at (pool_rev hp) hk hs (by rw [List.length_reverse]; omega), en, ix_rev hk']
/-! what is asked of them -/
theorem canO : ∀ l : List (Option Int), PyData.canLayAll0 (l.map (eO PyData.int)) = true
  | [] => rfl
  | a :: l => by
    show PyData.canLayAll0 (eO PyData.int a :: l.map (eO PyData.int)) = true
    rw [PyData.canLayAll0, canO l, show PyData.canLay0 (eO PyData.int a) = true from by cases a <;> rfl]; rfl
theorem depO : ∀ l : List (Option Int), PyData.depthAll (l.map (eO PyData.int)) ≤ 0
  | [] => Nat.le_refl _
  | a :: l => by
    show PyData.depthAll (eO PyData.int a :: l.map (eO PyData.int)) ≤ 0
    rw [PyData.depthAll]
    have := depO l
    have h : (eO PyData.int a).depth = 0 := by cases a <;> rfl
    omega
theorem lay_TO (l : List (Option Int)) : PyData.canLay0 (eT (eO PyData.int) l) = true := by rw [PyData.canLay0]; exact canO l
theorem shaped_TO (l : List (Option Int)) : SeqAt.shaped (eT (eO PyData.int) l) = true := by
  unfold SeqAt.shaped
  rw [lay_TO]
  refine decide_eq_true (Nat.le_trans (show PyData.depth (eT (eO PyData.int) l) ≤ 1 by rw [PyData.depth]; have := depO l; omega) (by decide))
theorem shaped_OTO (o : Option (List (Option Int))) : SeqAt.shaped (eO (eT (eO PyData.int)) o) = true := by
  cases o with
  | none => rfl
  | some l => exact shaped_TO l
theorem t4 (hp : PoolOk bets) (hk : KeptOk kept) (hs : 1 ≤ step) {many : Int} (hm : (bets.length : Int) = many) :
    ((!PyData.eqv ((eT (eO PyData.int)) (aloneF bets kept step).reverse) ((eT (eO PyData.int)) (aloneF bets.reverse kept step))) || (!(((List.range many.toNat).filter fun (x : Nat) => !decide ((ixG (aloneF bets kept step) (x : Int)).isNone = decide (ixG bets (x : Int) = 0))).map fun (x : Nat) => (x : Int)).isEmpty)) = false := by
  rw [no_filter (fun x hx => ?_), alone_rev hp hk hs, SeqAt.eqv_refl _ (lay_TO _)]
  · rfl
  · have hx := List.mem_range.mp hx
    rw [alone_ix (by omega), alone_at hp hk hs (by omega)]
    by_cases q : ixG bets (x : Int) = 0
    · rw [if_pos q, decide_eq_true q]; rfl
    · rw [if_neg q, decide_eq_false q]; rfl
theorem t5 (hp : PoolOk bets) (hk : KeptOk kept) (hs : 1 ≤ step) {k : Nat} (h : k < bets.length) :
    (decide ((0 : Int) < ixG bets (k : Int)) && (!PyData.eqv ((eO (eT (eO PyData.int))) (winF bets kept step [(k : Int)])) ((eO (eT (eO PyData.int))) (some [ixG (aloneF bets kept step) (k : Int)])))) = false := by
  by_cases q : 0 < ixG bets (k : Int)
  · rw [alone_ix h, alone_at hp hk hs (by omega), if_neg (by omega), one_win hp hk hs q]
    have : PyData.eqv ((eO (eT (eO PyData.int))) (some [some (divF (netP bets kept) (ixG bets (k : Int)) step)])) ((eO (eT (eO PyData.int))) (some [some (divF (netP bets kept) (ixG bets (k : Int)) step)])) = true := SeqAt.eqv_refl _ (lay_TO _)
    rw [this]; simp
  · rw [decide_eq_false q]; rfl
theorem more_ok {r s : Int} (hp : PoolOk bets) (hr : 0 ≤ r ∧ r < bets.length) (hs : 0 ≤ s ∧ s ≤ 1000000) : PoolOk (bets.take r.toNat ++ [s] ++ bets.drop (r.toNat + 1)) := by
  have h := wide_ok hp hr (s := s) (by omega)
  refine ⟨by rw [h.1]; exact hp.1, h.2.2.1, fun b hb => ?_⟩
  simp only [List.mem_append, List.mem_singleton] at hb
  rcases hb with (hb | hb) | hb
  · exact hp.2.2 b (List.mem_of_mem_take hb)
  · omega
  · exact hp.2.2 b (List.mem_of_mem_drop hb)
theorem t6 (hp : PoolOk bets) (hk : KeptOk kept) (hs : 1 ≤ step) {r s : Int} (hr : 0 ≤ r ∧ r < bets.length) (h1 : 1 ≤ s ∧ s ≤ 1000) :
    (decide (ixG bets r + s ≤ 1000000) && (!PyData.eqv (PyData.int (impF bets kept step r s)) ((eO PyData.int) (ixG (aloneF (bets.take r.toNat ++ [ixG bets r + s] ++ bets.drop (r.toNat + 1)) kept step) r)))) = false := by
  by_cases q : ixG bets r + s ≤ 1000000
  · have hb := bet_at hp hr
    have hw := wide_ok hp hr (s := ixG bets r + s) (by omega)
    have hm := more_ok hp hr (s := ixG bets r + s) (by omega)
    have e : r = (r.toNat : Int) := by omega
    have e2 := alone_ix (bets := bets.take r.toNat ++ [ixG bets r + s] ++ bets.drop (r.toNat + 1)) (kept := kept) (step := step) (k := r.toNat) (by rw [hw.1]; omega)
    rw [← e] at e2
    rw [e2, alone_at hm hk hs (by rw [hw.1]; exact hr), hw.2.1, if_neg (by omega)]
    have e3 : impF bets kept step r s = divF (netP (bets.take r.toNat ++ [ixG bets r + s] ++ bets.drop (r.toNat + 1)) kept) (ixG bets r + s) step := by
      unfold impF
      congr 1; omega
    rw [e3]
    show (_ && !PyData.eqv (PyData.int _) (PyData.int _)) = false
    rw [eqv_int]; simp
  · rw [decide_eq_false q]; rfl
end
theorem alone_len (bets : List Int) (kept : Rat) (step : Int) : (aloneF bets kept step).length = bets.length := by unfold aloneF; rw [List.length_map, List.length_range]
theorem cap_ok {bets : List Int} {kept : Rat} {step : Int} (hp : PoolOk bets) (hk : KeptOk kept) (hs : 1 ≤ step) : DivOk (capF (aloneF bets kept step)) := by
  have hl : (capF (aloneF bets kept step)).length = bets.length := by unfold capF; rw [List.length_map, alone_len]
  refine ⟨by rw [hl]; exact hp.1, by rw [hl]; exact hp.2.1, fun d hd x hx => ?_⟩
  obtain ⟨p, hpm, rfl⟩ := List.mem_map.mp hd
  obtain ⟨k, hkm, e⟩ := List.mem_map.mp hpm
  have hkl := List.mem_range.mp hkm
  cases p with
  | none => cases hx
  | some y =>
    split at hx
    · cases hx
    · rename_i q
      cases hx
      have q2 : ¬ (1000000 : Int) < x := fun z => q (by show (false || decide ((1000000 : Int) < x)) = true; rw [decide_eq_true z]; rfl)
      rw [alone_at hp hk hs (by omega)] at e
      split at e
      · cases e
      · cases e
        rename_i q3
        have hb := bet_at hp (w := (k : Int)) (by omega)
        have hn := (net_le (pool_sum hp).1 hk).1
        exact ⟨Int.mul_nonneg (Int.ediv_nonneg (Int.ediv_nonneg (by omega) (by omega)) (by omega)) (by omega), by omega⟩
theorem cap_len (bets : List Int) (kept : Rat) (step : Int) : (capF (aloneF bets kept step)).length = bets.length := by unfold capF; rw [List.length_map, alone_len]
section
variable {l : List (Option Int)} {money : Int}
theorem cover_get (h : (coverF l money).isNone = false) : some 0 ∉ l ∧ (coverF l money).getD default = l.map (betFor money) ∧ (l.map (betFor money)).sum < money := by
  unfold coverF at h ⊢
  split at h
  · cases h
  · rename_i q
    split at h
    · rename_i q2
      rw [if_neg q, if_pos q2]
      exact ⟨q, rfl, q2⟩
    · cases h
theorem cover_len (h : (coverF l money).isNone = false) : ((coverF l money).getD default).length = l.length := by rw [(cover_get h).2.1, List.length_map]
theorem cover_ix (h : (coverF l money).isNone = false) {k : Nat} (hk : k < l.length) : ixG ((coverF l money).getD default) (k : Int) = betFor money (ixG l (k : Int)) := by
  rw [(cover_get h).2.1]
  refine ixG_nat ?_
  rw [List.getElem?_map, List.getElem?_eq_getElem hk]
  exact congrArg some (congrArg (betFor money) (ixG_nat (List.getElem?_eq_getElem hk)).symm)
theorem bet_for {x : Int} (hx : 1 ≤ x) : money * 100 ≤ betFor money (some x) * x ∧ (betFor money (some x) - 1) * x < money * 100 := by
  show money * 100 ≤ -(-money * 100 / x) * x ∧ (-(-money * 100 / x) - 1) * x < money * 100
  have h1 := Int.ediv_mul_le (-money * 100) (show x ≠ 0 by omega)
  have h2 := Int.lt_ediv_add_one_mul_self (-money * 100) (show 0 < x by omega)
  rw [Int.add_mul] at h2
  rw [Int.sub_mul, Int.neg_mul]
  omega
theorem cover_some (h : (coverF l money).isNone = false) {k : Nat} (hk : k < l.length) (hb : decide ((0 : Int) < ixG ((coverF l money).getD default) (k : Int)) = true) : (ixG l (k : Int)).isSome = true := by
  rw [cover_ix h hk] at hb
  cases e : ixG l (k : Int) with
  | none => rw [e] at hb; exact absurd hb (by unfold betFor; simp)
  | some x => rfl
theorem d_pos (hd : DivOk l) (h0 : some 0 ∉ l) {k : Nat} (hk : k < l.length) {x : Int} (e : ixG l (k : Int) = some x) : 1 ≤ x ∧ x ≤ 1000000 := by
  have hm : ixG l (k : Int) ∈ l := ixG_mem (by omega)
  have := hd.2.2 _ hm x e
  have : x ≠ 0 := fun z => h0 (by rw [e, z] at hm; exact hm)
  omega
theorem t8 (hd : DivOk l) (h : (coverF l money).isNone = false) {many : Int} (hm : (l.length : Int) = many) :
    (decide (money ≤ ((coverF l money).getD default).sum) || (!(((List.range many.toNat).filter fun (x : Nat) => (!(ixG l (x : Int)).isNone) && decide (ixG ((coverF l money).getD default) (x : Int) * (ixG l (x : Int)).getD default / 100 < money)).map fun (x : Nat) => (x : Int)).isEmpty)) = false := by
  have hg := cover_get h
  rw [no_filter (fun x hx => ?_), decide_eq_false (by rw [hg.2.1]; omega)]
  · rfl
  · have hx := List.mem_range.mp hx
    rw [cover_ix h (by omega)]
    cases e : ixG l (x : Int) with
    | none => rfl
    | some y =>
      have hy := d_pos hd hg.1 (by omega) e
      have hb := (bet_for (money := money) hy.1).1
      show (true && decide (betFor money (some y) * y / 100 < money)) = false
      rw [decide_eq_false]; rfl
      have := (Int.le_ediv_iff_mul_le (a := money) (b := betFor money (some y) * y) (c := 100) (by decide)).mpr hb
      omega
theorem t9 (hd : DivOk l) (h : (coverF l money).isNone = false) {many : Int} (hm : (l.length : Int) = many) :
    (!(((List.range many.toNat).filter fun (x : Nat) => decide ((0 : Int) < ixG ((coverF l money).getD default) (x : Int)) && decide (money ≤ (ixG ((coverF l money).getD default) (x : Int) - (1 : Int)) * (ixG l (x : Int)).getD default / 100)).map fun (x : Nat) => (x : Int)).isEmpty) = false := by
  have hg := cover_get h
  refine no_filter fun x hx => ?_
  have hx := List.mem_range.mp hx
  rw [cover_ix h (by omega)]
  cases e : ixG l (x : Int) with
  | none => rfl
  | some y =>
    have hy := d_pos hd hg.1 (by omega) e
    have hb := (bet_for (money := money) hy.1).2
    show (_ && decide (money ≤ (betFor money (some y) - 1) * y / 100)) = false
    have : ¬ money ≤ (betFor money (some y) - 1) * y / 100 := fun z => by
      have := (Int.le_ediv_iff_mul_le (a := money) (b := (betFor money (some y) - 1) * y) (c := 100) (by decide)).mp z
      omega
    rw [decide_eq_false this, Bool.and_false]
theorem cov_ok (hd : DivOk l) (hm : 1 ≤ money ∧ money ≤ 1000000) (h : (coverF l money).isNone = false) : CovOk l money ((coverF l money).getD default) := by
  have hg := cover_get h
  rw [hg.2.1]
  refine ⟨List.length_map .., fun b hb => ?_, fun p hp x hx => ?_, hg.2.2⟩
  · obtain ⟨d, hdm, rfl⟩ := List.mem_map.mp hb
    cases d with
    | none => exact Int.le_refl _
    | some y =>
      have h1 := hd.2.2 _ hdm y rfl
      have h2 : y ≠ 0 := fun z => hg.1 (by rw [z] at hdm; exact hdm)
      have h3 := (bet_for (money := money) (x := y) (by omega)).1
      refine Int.not_lt.mp fun q => ?_
      have : betFor money (some y) * y < 0 := Int.mul_neg_of_neg_of_pos q (by omega)
      omega
  · rw [List.zip_map_right] at hp
    obtain ⟨q, hq, rfl⟩ := List.mem_map.mp hp
    have hq2 : q.1 = q.2 := by
      obtain ⟨i, hi, e⟩ := List.mem_iff_getElem.mp hq
      rw [List.getElem_zip] at e
      rw [← e]
    have hx : q.1 = some x := hx
    have hm1 : q.1 ∈ l := (List.of_mem_zip hq).1
    have h1 := hd.2.2 _ hm1 x hx
    have h2 : x ≠ 0 := fun z => hg.1 (by rw [hx, z] at hm1; exact hm1)
    have h3 := (bet_for (money := money) (x := x) (by omega)).1
    show money ≤ betFor money q.2 * x / 100
    rw [← hq2, hx]
    exact (Int.le_ediv_iff_mul_le (by decide)).mpr h3
end
theorem mul_cap {l : List (Option Int)} {k : Nat} {c : Int} (hd : DivOk l) (hk : k < l.length) (hs : (ixG l (k : Int)).isSome = true) : IntMulOk c ((ixG l (k : Int)).getD default) := by
  have := opt_pos2 (hd.2.2 _ (ixG_mem (l := l) (i := (k : Int)) (by omega))) hs
  exact mul_r (by omega) (by omega)
end Nz

/-! the law's own head, for promises that hold where no repr is on the way -/
namespace Nz
open PySem PySem.Spec PyProof.Rows L2 RZ
/-- what a law's def promises -/
def R_top : List PyData → PyData → Prop := fun ds d => ∃ script : List Int, ds = [eL PyData.int script] ∧ script.length ≤ 100000 ∧ d = PyData.bool true
theorem hide_nil (H : Hp) : hide [] H = H := by
  funext b
  unfold hide
  rw [if_neg (fun m => nomatch m)]
theorem top_sp {K : PySem.W.Frag} {H : Hp} {a : Addr} {ns : List Int} (hl : ns.length ≤ 100000) (hq : SqL K H a (ns.map V.int)) : SpP K R_top [.ref a] H (fun v _ => v = .bl true) E0 :=
  ⟨[], [eL PyData.int ns], .bool true, fun _ m => (nomatch m), by rw [hide_nil]; exact .cons (.lst hq (dpa_ints ns)) .nil, ⟨ns, rfl, hl, rfl⟩, fun v H' _ dz => dp_bl dz⟩
section
variable {P : Program} {w : World} {K : PySem.W.Frag} {mg mb : Str → Option Value} {k : Nat} {g a : Addr} {fd : FuncData} {x : Str} {s : Shared} {us : List Value} {ns : List Int}
/-- the heap that is tracked: the script alone, if it is no part of the module -/
def soleH (K : PySem.W.Frag) (a : Addr) (ob : Obj) (ns : List Int) : Hp := fun b => if b = a then (if (K.lookup a).isSome = true then none else some (.frz ob (.lst (ns.map V.int)))) else none
theorem law_callG (inK : K.In s.heap) (nsG : s.heap.Ns mainGlobals mg) (nsB : s.heap.Ns builtinsNs mb) (bb : ∀ y : Str, y ≠ "__name__" → mb y = bootBuiltins y) (lim : s.heap.NoLimit) (gn : s.gens = #[])
    (at_a : s.heap.get? a = some { cls := .type "list", data := .seq us.toArray }) (allI : IntsAre us ns) (short : ns.length ≤ 100000) (room : Room k callerA)
    (F : ∀ base : Heap, K.In base → base.Ns mainGlobals mg → FnG P w K mg base k g fd [x] (SpP K R_top)) (bnd : ∀ (s : Shared) (u : Value), BindsTo s fd ⟨[u], []⟩ [(x, u)]) :
    codeAny (model P w) callerA (.call (.ref g) ⟨[.ref a], []⟩) (fun r t => r = .ok (.ret (.bool true)) ∧ OldK s.heap t.heap ∧ t.os = s.os ∧ AllBare t.gens) s := by
  have vals := vals_ints allI
  have cnt := allI.length
  have size : ns.length ≤ sizeLine := Nat.le_trans short (by decide)
  let ob : Obj := { cls := .type "list", data := .seq us.toArray }
  let H := soleH K a ob ns
  have off : ∀ {b : Addr}, b ≠ a → H b = none := fun {b} ne => if_neg ne
  have isA : ∀ {b : Addr} {u : HO}, H b = some u → b = a ∧ u = .frz ob (.lst (ns.map V.int)) ∧ K.lookup a = none := fun {b u} e => by
    by_cases q : b = a
    · subst q
      have e : (if True then (if (K.lookup b).isSome = true then none else some (HO.frz ob (.lst (ns.map V.int)))) else none) = some u := by
        have e' := e
        show (if True then _ else _) = _
        rw [if_pos trivial]
        have : H b = (if (K.lookup b).isSome = true then none else some (HO.frz ob (.lst (ns.map V.int)))) := if_pos rfl
        rw [this] at e'; exact e'
      rw [if_pos trivial] at e
      cases z : K.lookup b with
      | some o => rw [z] at e; cases e
      | none => rw [z] at e; cases e; exact ⟨rfl, rfl, rfl⟩
    · rw [off q] at e; cases e
  have seq : SqL K H a (ns.map V.int) := by
    cases z : K.lookup a with
    | some o =>
      have e := inK a o z
      rw [at_a] at e
      cases e
      exact .inr ⟨_, us.toArray, _, z, rfl, rfl, rfl, by rw [List.size_toArray, cnt]; exact size, by simpa using vals⟩
    | none =>
      refine .inl (.inr ⟨ob, ?_⟩)
      show H a = _
      have : H a = (if (K.lookup a).isSome = true then none else some (HO.frz ob (.lst (ns.map V.int)))) := if_pos rfl
      rw [this, z]; rfl
  have hok : HOk P w H s.heap := fun b u e => by
    obtain ⟨rfl, rfl, _⟩ := isA e
    exact ⟨at_a, by rw [List.length_map]; exact size, us, _, vals, at_a⟩
  have back : ∀ {b : Addr} {o : Obj}, s.heap.get? b = some o → H b = none → (hidT s.heap H).get? b = some o := fun e n => hidT_get e n
  have dict : ∀ {b : Addr} {o : Obj} {es : Array DictEntry} {m : Nat}, s.heap.get? b = some o → o.data = .dict es m → H b = none := fun {b o es m} e d => by
    cases q : H b with
    | none => rfl
    | some u =>
      obtain ⟨rfl, _, _⟩ := isA q
      rw [at_a] at e
      cases e
      have d : Data.seq us.toArray _ = Data.dict es m := d
      cases d
  have nsOf : ∀ {b : Addr} {m : Str → Option Value}, s.heap.Ns b m → (hidT s.heap H).Ns b m := fun ⟨o, es, j, e, d, r⟩ => ⟨o, es, j, back e (dict e d), d, r⟩
  have inB : K.In (hidT s.heap H) := fun b o e => back (inK b o e) (by
    cases q : H b with
    | none => rfl
    | some u =>
      obtain ⟨rfl, _, z⟩ := isA q
      rw [z] at e; cases e)
  obtain ⟨mc, lim1, lim2⟩ := lim
  have env : Env0 P w K mg (hidT s.heap H) callerA [] s H := ⟨rfl, ⟨inB, nsOf nsG, ⟨mb, nsOf nsB, bb⟩, ⟨mc, nsOf lim1, lim2⟩⟩, fun _ _ e => of_hidT e, Nat.le_of_eq (hidT_size _ _), trivial, fun b m => absurd (show b ∈ ([] : List Addr) from m) (by simp), hok, .of_eq gn⟩
  have ran := (F _ inB (nsOf nsG)).run callerA [] s H ⟨[.ref a], []⟩ [.ref a] [.ref a] (fun v _ => v = .bl true) room rfl env (bnd s (.ref a)) (.cons rfl .nil) (top_sp short seq)
  refine codeAny_mono ran fun r t h => ?_
  match r, h with
  | .error _, h => exact h.elim
  | .ok .next, h => exact h.elim
  | .ok .brk, h => exact h.elim
  | .ok .cont, h => exact h.elim
  | .ok (.ret u), h =>
    obtain ⟨v, H', os, bare, un, hok', rv, q⟩ := h
    have q : v = .bl true := q
    subst q
    have rv : u = Value.bool true := rv
    subst rv
    refine ⟨rfl, OldK.of_keep fun b o e => ?_, os, bare⟩
    cases q : H b with
    | none => exact un.keep b o e q (fun z => absurd (show b ∈ ([] : List Addr) from z) (by simp)) (by simp)
    | some u =>
      obtain ⟨rfl, rfl, _⟩ := isA q
      have e1 := (hok b _ q).1
      have e2 := (hok' b _ (un.frzs b ob _ q)).1
      rw [e] at e1
      cases e1
      exact e2
end
/-- the goal that k_head leaves -/
theorem walk_ofG {l : PySem.W.OpenLaw} {n k : Nat} {q : Program} {loose : List Str} {XP : (Str → Option Value) → Heap → Prop} {YP : World → Heap → Prop} {d : DefRec} {K : Params → PySem.W.Frag} {x : Str}
    (most : l.most = some n) (small : n ≤ 100000) (none_ : d.params.defaults = []) (room : Room k callerA) (hY : ∀ (w : World) (h : Heap), YP w h → (K w.params).In h)
    (F : ∀ (w : World) (mg : Str → Option Value) (g : Addr) (h : Heap), (K w.params).In h → h.Ns mainGlobals mg → mg d.name = some (.ref g) →
      ∃ fd : FuncData, (∀ (s : Shared) (u : Value), BindsTo s fd ⟨[u], []⟩ [(x, u)]) ∧ ∀ base : Heap, (K w.params).In base → base.Ns mainGlobals mg → FnG l.prog w (K w.params) mg base k g fd [x] (SpP (K w.params) R_top)) :
    PySem.W.WalkO q loose XP YP l.row.toRowW d [] (fun f vs => PySem.call f vs) :=
  Att.attach_call most none_ fun w s₀ s₁ mg mb g o pm cd doc a vs ns G Y ho hd hcd hmg hobj hints hlen hg =>
    have inK := hY w _ Y
    have ⟨_, bnd, all⟩ := F w mg g _ inK G.T.g hmg
    law_callG inK G.T.g G.T.b G.T.builtins G.T.nolimit hg hobj hints (Nat.le_trans hlen small) room all bnd
end Nz

namespace Nz
open PySem PySem.Spec PyProof.Rows L2 RZ
def topS (i : Nat) : Stmt := PySem.Challenge.pw_nosurewin_k79_slips_and_pools_by_product.main.body.getD i (.Pass ⟨0, 0, 0, 0⟩)
/-- what the top leaves of the names that are no defs -/
structure Gb (K : PySem.W.Frag) (mg : Str → Option Value) : Prop where
  abs_ : mg "abs" = none
  all_ : mg "all" = none
  bool_ : mg "bool" = none
  enumerate_ : mg "enumerate" = none
  int_ : mg "int" = none
  isinstance_ : mg "isinstance" = none
  len_ : mg "len" = none
  list_ : mg "list" = none
  max_ : mg "max" = none
  range_ : mg "range" = none
  repr_ : mg "repr" = none
  sorted_ : mg "sorted" = none
  str_ : mg "str" = none
  sum_ : mg "sum" = none
  tuple_ : mg "tuple" = none
  zip_ : mg "zip" = none
  c_MAX_AMOUNT : ∃ t, mg "MAX_AMOUNT" = some (.int 1000000 t)
  c_MAX_LEGS : ∃ t, mg "MAX_LEGS" = some (.int 10 t)
  c_MAX_PART : ∃ t, mg "MAX_PART" = some (.int 1000 t)
  c_MAX_RUNNERS : ∃ t, mg "MAX_RUNNERS" = some (.int 20 t)
  c_WORDS : ∃ a : Addr, mg "WORDS" = some (.ref a) ∧ ∀ H, Dz K H (.ref a) (.tuple [.str (Str.ofString "won"), .str (Str.ofString "lost"), .str (Str.ofString "void")])



/-! ### the law's own defs that touch the state -/
abbrev s_law_start : Stmt := topS 53
abbrev N_law_start : List Str := ["script", "seed", "cell"]
theorem sc_law_start : FnScope N_law_start ["script"] (defScope s_law_start) := ⟨rfl, rfl, rfl, by decide +kernel, rfl, by decide +kernel, by decide +kernel⟩
def R_law_start : List PyData → List PyData → Prop := fun ds es => ∃ script : List Int, ds = [eL .int script] ∧ script.length ≤ 100000 ∧ es = [.list (script.map .int), .int 0, .int 0, .int (seedOf script : Nat)]
theorem ok_law_start {P : Program} {w : World} {K : PySem.W.Frag} {mg : Str → Option Value} {base : Heap} (B : Gb K mg) (F : Fd K mg "_law_start" s_law_start) : Cl P w K mg base 1 "_law_start" ["script"] (SpL K R_law_start) := by
  obtain ⟨f, fd, F, hm⟩ := F.ex
  refine ⟨f, fd, fnG_of (k := 0) F sc_law_start (spL_len fun ds d h => ?_) (fun cdv A outer s H hr hgd => ⟨_, (pss_cons (ps_set (i := 1) sc_law_start.nd rfl (Or.inl rfl) pe_int)
    (pss_cons (ps_for PassesOwn.never rfl (pi_list (pv 0)) (pg_name (i := 2) sc_law_start.nd rfl (Or.inl rfl)) (pss_one (ps_set (i := 1) sc_law_start.nd rfl (Or.inl rfl) (pe_op op_add (pe_op op_mod (pe_callTy call_int1 (by rfl) B.int_ PyProof.Rows.boot_int (pa_cons (pe_op op_add (pe_op op_mulG (pv 1) pe_int) (pv 2)) pa_nil)) pe_int) pe_int))))
    (pss_one (ps_ret (pe_lst (pa_cons (pe_callTy call_list_of (by rfl) B.list_ PyProof.Rows.boot_list (pa_cons (pv 0) pa_nil)) (pa_cons pe_int (pa_cons pe_int (pa_cons (pv 1) pa_nil))))))))), fun vs Q => fn_new (N := N_law_start) (fun ds d h => ?_) (fun B S ds d h D hR => ?_) vs H Q E0⟩), hm, F.kp, F.binds fun _ _ _ _ _ _ us hl => match us, hl with | [_], _ => rfl⟩
  · obtain ⟨script, rfl, h0, h1⟩ := h; rfl
  · obtain ⟨script, rfl, h0, h1⟩ := h; simp
  · obtain ⟨script, rfl, h0, h1⟩ := h
    subst h1
    show Ss _ _ [.da (eL .int script), .no, .no] _ _
    refine s_seq (s_asg ed_int (s_le (ρ1 := [.da (eL .int script), .da (.int ((seedOf [] : Nat) : Int)), .no]) (le_rfl rfl) ?_))
    refine s_seq (s_forX script (fun x => Itm.hard (PyData.int x)) (ei_listX (ed_var rfl)) (fun i => [.da (eL .int script), .da (.int ((seedOf (script.take i) : Nat) : Int)), .no]) (le_same (le_same (le_no le_nil))) (fun T' hT i x hx => ⟨_, [2], eg_name (by decide), ?_⟩) ?_)
    · show Ss _ _ [.da (eL .int script), .da (.int ((seedOf (script.take i) : Nat) : Int)), .da (.int x)] _ _
      refine s_asg (ed_I0 (ed_I (ed_intI (ed_I0 (ed_I (ed_var rfl) ed_int (mul_r (by omega) (by omega))) (ed_var rfl))) ed_int (by omega)) ed_int) (s_end (ρ1 := [.da (eL .int script), .da (.int ((seedOf (script.take (i + 1)) : Nat) : Int)), .no]) (le_same (le_da (congrArg PyData.int (seedOf_step hx).2) (le_no le_nil))))
    · refine s_retL (el_is (el_lst (ds := [eL .int script, .int 0, .int 0, .int ((seedOf (script.take script.length) : Nat) : Int)]) (ea_cons (ed_L (el_listOf (.inl (ed_var rfl)))) (ea_cons ed_int (ea_cons ed_int (ea_cons (ed_var rfl) ea_nil))))) (by rw [List.take_length])) hR
abbrev s_law_draw : Stmt := topS 54
abbrev N_law_draw : List Str := ["state", "many", "value"]
theorem sc_law_draw : FnScope N_law_draw ["state", "many"] (defScope s_law_draw) := ⟨rfl, rfl, rfl, by decide +kernel, rfl, by decide +kernel, by decide +kernel⟩
theorem ok_law_draw {P : Program} {w : World} {K : PySem.W.Frag} {mg : Str → Option Value} {base : Heap} (B : Gb K mg) (F : Fd K mg "_law_draw" s_law_draw) : Cl P w K mg base 1 "_law_draw" ["state", "many"] (SpW K R_draw) := by
  obtain ⟨f, fd, F, hm⟩ := F.ex
  refine ⟨f, fd, fnG_of (k := 0) F sc_law_draw (spW_len fun ds d h => ?_) (fun cdv A outer s H hr hgd => ⟨_, (pss_cons (ps_if (PW.pt (pw_and (pt_cmpR (op_eqD hr.units) (pe_ix ix_list (pv 0) pe_int (fun _ _ => rfl)) pe_int (nomark _)) (pw_and1 (pt_cmpR op_ge (pe_ix ix_list (pv 0) pe_int (fun _ _ => rfl)) (pe_callB call_len_seq (by rfl) B.len_ PySem.boot_len (pa_cons (pe_ix ix_list (pv 0) pe_int (fun _ _ => rfl)) pa_nil)) (nomark _)))))
      (pss_cons (ps_asg (pe_op op_mod (pe_callTy call_int1 (by rfl) B.int_ PyProof.Rows.boot_int (pa_cons (pe_op op_add (pe_op op_mulG (pe_ix ix_list (pv 0) pe_int (fun _ _ => rfl)) pe_int) pe_int) pa_nil)) pe_int) (pg_sub (pv 0) pe_int set_list (fun _ => rfl)) rfl)
        (pss_one (ps_ret (pe_op op_mod (pe_callTy call_int1 (by rfl) B.int_ PyProof.Rows.boot_int (pa_cons (pe_op op_fdivG (pe_ix ix_list (pv 0) pe_int (fun _ _ => rfl)) pe_int) pa_nil)) (pv 1))))) pss_nil)
    (pss_cons (ps_if (pt_cmpR (op_eqD hr.units) (pe_ix ix_list (pv 0) pe_int (fun _ _ => rfl)) pe_int (nomark _))
      (pss_cons (ps_asg (pe_callB call_abs (by rfl) B.abs_ PyProof.Rows.boot_abs (pa_cons (pe_ix ix_list (pe_ix ix_list (pv 0) pe_int (fun _ _ => rfl)) (pe_ix ix_list (pv 0) pe_int (fun _ _ => rfl)) (fun _ _ => rfl)) pa_nil)) (pg_sub (pv 0) pe_int set_list (fun _ => rfl)) rfl)
        (pss_one (ps_asg (pe_op op_add (pe_ix ix_list (pv 0) pe_int (fun _ _ => rfl)) pe_int) (pg_sub (pv 0) pe_int set_list (fun _ => rfl)) rfl))) pss_nil)
    (pss_cons (ps_set (i := 2) sc_law_draw.nd rfl (Or.inl rfl) (pe_op op_mod (pe_callTy call_int1 (by rfl) B.int_ PyProof.Rows.boot_int (pa_cons (pe_ix ix_list (pv 0) pe_int (fun _ _ => rfl)) pa_nil)) (pv 1)))
    (pss_cons (ps_asg (pe_op op_fdivG (pe_ix ix_list (pv 0) pe_int (fun _ _ => rfl)) (pv 1)) (pg_sub (pv 0) pe_int set_list (fun _ => rfl)) rfl)
    (pss_one (ps_ret (pv 2))))))), fun vs Q => fn_draws (N := N_law_draw) (fun ds d h => ?_) (fun B S a ds Φ h D hR => ?_) vs H Q E0⟩), hm, F.kp, F.binds fun _ _ _ _ _ _ us hl => match us, hl with | [_, _], _ => rfl⟩
  · obtain ⟨many, rfl, h0, h1, h2⟩ := h; rfl
  · obtain ⟨many, rfl, h0, h1, h2⟩ := h; simp
  · obtain ⟨many, rfl, h0, h1, hΦ⟩ := h
    show Ss _ _ [.mu false a (.any StOk), .da (.int many), .no] _ _
    refine s_open (i := 0) rfl (fun ds hds => ?_)
    obtain ⟨l, cur, pos, seed, rfl⟩ := hds
    have fin : ∀ (l : List Int) (cur pos seed : Nat) (y : Int) (z : Sl), 0 ≤ y ∧ y < many → ∀ {te : TE} {T : Tm} {ρ : List Sl}, Ed ⟨K, B, [a], S⟩ ρ te (.int y) [.mu false a (.lst [.list (l.map .int), .int (cur : Int), .int (pos : Int), .int (seed : Int)]), .da (.int many), z] → Ss ⟨K, B, [a], S⟩ T ρ (tRet te) D := fun l cur pos seed y z hy te T ρ h σ H W =>
      h T σ H W _ fun v H1 W1 => by
        have W2 := W1.le (le_any (P := StOk) ⟨l, cur, pos, seed, rfl⟩ (le_same (le_same le_nil)))
        exact hR _ (hΦ y hy) v H1 W2.keep (fun p hp => by
          simp only [List.mem_singleton] at hp
          subst hp
          exact (W2.ok 0 _ rfl).2.2.mono hide_S0 rfl) (dpm hide_S0 W2.dp)
    have md : ∀ x : Int, 0 ≤ x % many ∧ x % many < many := fun x => ⟨Int.emod_nonneg _ (by omega), Int.emod_lt_of_pos _ h0⟩
    show Ss _ _ [.mu false a (.lst [.list (l.map .int), .int (cur : Int), .int (pos : Int), .int (seed : Int)]), .da (.int many), .no] _ _
    refine s_seq (s_if (b := decide ((cur : Int) = 0) && decide ((l.length : Int) ≤ (pos : Int))) (et_and (et_test (ed_eqI (ed_ixM ed_int rfl ⟨_, _, rfl⟩ rfl) ed_int)) (fun _ => et_test (ed_B0 (ed_ixM ed_int rfl ⟨_, _, rfl⟩ rfl) (ed_lenLX (ed_ixM ed_int rfl ⟨_, _, rfl⟩ rfl))))) (fun hc => ?_) (fun hc => ?_))
    · refine s_seq (s_setL (i := 0) (n := 3) (ed_I (ed_intI (ed_I0 (ed_I (ed_ixM ed_int rfl ⟨_, _, rfl⟩ rfl) ed_int (mul_r (by omega) (by omega))) ed_int)) ed_int (by omega)) ed_int ⟨_, _, rfl⟩ rfl rfl (s_le (ρ1 := [.mu false a (.lst [.list (l.map .int), .int (cur : Int), .int (pos : Int), .int ((((seed * 48271 + 69621) % 2147483629 : Nat)) : Int)]), .da (.int many), .no]) (le_rfl rfl) ?_))
      exact fin l cur pos ((seed * 48271 + 69621) % 2147483629) (((((seed * 48271 + 69621) % 2147483629 : Nat)) : Int) / 13 % many) .no (md _) (ed_I (ed_intI (ed_I (ed_ixM ed_int rfl ⟨_, _, rfl⟩ rfl) ed_int (div_small (by omega) (by omega)))) (ed_var rfl) h0)
    refine s_seq ?_
    refine s_next ?_
    have rest : ∀ (T : Tm) (cur pos : Nat), Sk ⟨K, B, [a], S⟩ T [.mu false a (.lst [.list (l.map .int), .int (cur : Int), .int (pos : Int), .int (seed : Int)]), .da (.int many), .no] (tSeq (tAsg (tOp (rI (fun _ j => 0 < j) fun i j => .int (i % j)) (tCB (fun xs H Q => (∃ i, xs = [.int i] ∧ Q (.int i) H) ∨ ∃ k, xs = [.bl k] ∧ Q (.int (if k then 1 else 0)) H) (tCons (tOp (rIxL K) (tVar 0) (tC (.int 1))) tNil)) (tVar 1)) (gName 2)) (tSeq (tAsg (tOp (rI CDivG fun i j => .int (i / j)) (tOp (rIxL K) (tVar 0) (tC (.int 1))) (tVar 1)) (gSub (tVar 0) (tC (.int 1)) rSetL)) (tRet (tVar 2))) D) := fun T cur pos => by
      refine s_seq (s_asg (ed_I (ed_intI (ed_ixM ed_int rfl ⟨_, _, rfl⟩ rfl)) (ed_var rfl) h0) (s_le (ρ1 := [.mu false a (.lst [.list (l.map .int), .int (cur : Int), .int (pos : Int), .int (seed : Int)]), .da (.int many), .da (.int ((cur : Int) % many))]) (le_rfl rfl) ?_))
      refine s_seq (s_setL (i := 0) (n := 1) (ed_I (ed_ixM ed_int rfl ⟨_, _, rfl⟩ rfl) (ed_var rfl) (div_small h0 (by omega))) ed_int ⟨_, _, rfl⟩ rfl rfl (s_le (ρ1 := [.mu false a (.lst [.list (l.map .int), .int ((cur / many.toNat : Nat) : Int), .int (pos : Int), .int (seed : Int)]), .da (.int many), .da (.int ((cur : Int) % many))]) (le_rfl ?_) ?_))
      · have e : ((cur / many.toNat : Nat) : Int) = (cur : Int) / many := by rw [Int.natCast_ediv, Int.toNat_of_nonneg (by omega)]
        rw [e]; rfl
      exact fin l _ pos seed _ _ (md _) (ed_var rfl)
    refine s_seq (s_if (b := decide ((cur : Int) = 0)) (et_test (ed_eqI (ed_ixM ed_int rfl ⟨_, _, rfl⟩ rfl) ed_int)) (fun hc2 => ?_) (fun hc2 => ?_))
    · have hp : pos < l.length := by simp only [hc2, Bool.true_and] at hc; have := of_decide_eq_false hc; omega
      refine s_seq (s_setL (i := 0) (n := 1) (ed_abs (ed_ixL (ed_ixM ed_int rfl ⟨_, _, rfl⟩ rfl) (ed_ixM ed_int rfl ⟨_, _, rfl⟩ rfl) (d := .int l[pos]) (by rw [atI_nat (v := PyData.int l[pos]) (by simp [hp])]))) ed_int ⟨_, _, rfl⟩ rfl rfl (s_le (ρ1 := [.mu false a (.lst [.list (l.map .int), .int (l[pos].natAbs : Int), .int (pos : Int), .int (seed : Int)]), .da (.int many), .no]) (le_rfl rfl) ?_))
      refine s_setL (i := 0) (n := 2) (ed_I0 (ed_ixM ed_int rfl ⟨_, _, rfl⟩ rfl) ed_int) ed_int ⟨_, _, rfl⟩ rfl rfl (s_le (ρ1 := [.mu false a (.lst [.list (l.map .int), .int (l[pos].natAbs : Int), .int ((pos + 1 : Nat) : Int), .int (seed : Int)]), .da (.int many), .no]) (le_rfl rfl) ?_)
      exact rest _ _ _
    · refine s_next ?_
      exact rest _ _ _
abbrev s_law_pick : Stmt := topS 55
abbrev N_law_pick : List Str := ["state", "some"]
theorem sc_law_pick : FnScope N_law_pick ["state", "some"] (defScope s_law_pick) := ⟨rfl, rfl, rfl, by decide +kernel, rfl, by decide +kernel, by decide +kernel⟩
theorem ok_law_pick {P : Program} {w : World} {K : PySem.W.Frag} {mg : Str → Option Value} {base : Heap} (B : Gb K mg) (F : Fd K mg "_law_pick" s_law_pick) (C_law_draw : Cl P w K mg base 1 "_law_draw" ["state", "many"] (SpW K R_draw)) : Cl P w K mg base 2 "_law_pick" ["state", "some"] (SpW K R_pick) := by
  obtain ⟨f, fd, F, hm⟩ := F.ex
  refine ⟨f, fd, fnG_of (k := 1) F sc_law_pick (spW_len fun ds d h => ?_) (fun cdv A outer s H hr hgd => ⟨_, (pss_one (ps_ret (pe_ix ix_any (pv 1) (pe_cl C_law_draw (hr.mono (by decide)) hgd (by rfl) (pa_cons (pv 0) (pa_cons (pe_callB call_len_seq (by rfl) B.len_ PySem.boot_len (pa_cons (pv 1) pa_nil)) pa_nil))) (fun _ _ => rfl)))), fun vs Q => fn_draws (N := N_law_pick) (fun ds d h => ?_) (fun B S a ds Φ h D hR => ?_) vs H Q E0⟩), hm, F.kp, F.binds fun _ _ _ _ _ _ us hl => match us, hl with | [_, _], _ => rfl⟩
  · obtain ⟨l, rfl | rfl, _⟩ := h <;> rfl
  · obtain ⟨l, rfl | rfl, _⟩ := h <;> simp
  · obtain ⟨l, hl, h0, h1, hΦ⟩ := h
    rcases hl with rfl | rfl
    · show Ss _ _ [.mu false a (.any StOk), .da (.list l)] _ _
      refine s_retW (i := 0) (ρ1 := [.mu false a (.any StOk), .da (.list l)]) (P := fun d => d ∈ l) (f := fun d => d) (ew_ixAny (ds := l) (.inl rfl) (ed_var rfl) (ew_draw (ew_det (f := PyData.int) (x := (l.length : Int)) (ed_lenL (ed_var rfl))) rfl rfl (by rintro _ rfl; omega)) (by rintro x ⟨m, rfl, hx⟩; exact hx)) rfl hR hΦ
    · show Ss _ _ [.mu false a (.any StOk), .da (.tuple l)] _ _
      refine s_retW (i := 0) (ρ1 := [.mu false a (.any StOk), .da (.tuple l)]) (P := fun d => d ∈ l) (f := fun d => d) (ew_ixAny (ds := l) (.inr rfl) (ed_var rfl) (ew_draw (ew_det (f := PyData.int) (x := (l.length : Int)) (ed_lenT (ed_var rfl))) rfl rfl (by rintro _ rfl; omega)) (by rintro x ⟨m, rfl, hx⟩; exact hx)) rfl hR hΦ


/-! ### is_integer -/
abbrev s_is_integer : Stmt := topS 5
abbrev N_is_integer : List Str := ["value"]
theorem sc_is_integer : FnScope N_is_integer ["value"] (defScope s_is_integer) := ⟨rfl, rfl, rfl, by decide +kernel, rfl, by decide +kernel, by decide +kernel⟩
def R_is_integer : List PyData → PyData → Prop := fun ds d => ∃ (value : PyData), ds = [value] ∧ d = (PyData.bool (isIntD value))
set_option maxHeartbeats 4000000 in
theorem ok_is_integer {P : Program} {w : World} {K : PySem.W.Frag} {mg : Str → Option Value} {base : Heap} (B : Gb K mg) (F : Fd K mg "is_integer" s_is_integer) : Cl P w K mg base 1 "is_integer" ["value"] (SpP K R_is_integer) := by
  have BG := B
  obtain ⟨f, fd, F, hm⟩ := F.ex
  refine ⟨f, fd, fnG_of (k := 0) F sc_is_integer (spP_len fun ds d h => ?_) (fun cdv A outer s H hr hgd => ⟨_, (pss_one (ps_ret (pe_and (pe_callB (r := rIsi K) call_isi (by rfl) B.isinstance_ boot_isinstance (pa_cons (pv 0) (pa_cons (pe_bltn (v := .ty "int") (u := .type "int") (by rfl) B.int_ PyProof.Rows.boot_int rfl) pa_nil))) (pe_one (pe_not (pe_callB (r := rIsi K) call_isi (by rfl) B.isinstance_ boot_isinstance (pa_cons (pv 0) (pa_cons (pe_bltn (v := .ty "bool") (u := .type "bool") (by rfl) B.bool_ (by decide +kernel) rfl) pa_nil)))))))), fun vs Q => fn_pure (N := N_is_integer) (fun ds d h => ?_) (fun B S ds d h D hR hN => ?_) vs H Q E0⟩), hm, F.kp, F.binds fun _ _ _ _ _ _ us hl => match us, hl with | [_], _ => rfl⟩
  · obtain ⟨value, rfl, rfl⟩ := h; rfl
  · obtain ⟨value, rfl, rfl⟩ := h; simp
  · obtain ⟨value, rfl, rfl⟩ := h
    show Ss _ _ [.da value] _ _
    exact s_ret (ed_is (ed_and (ed_isiD (ed_var rfl) (by exact kit_int _)) (fun hb1 => (ed_not (ed_isiD (ed_var rfl) (by exact kit_bool _))))) (by rfl : (PyData.bool ((isi_int value) && (!(isi_bool value)))) = (PyData.bool (isIntD value)))) hR

/-! ### greatest_divisor -/
abbrev s_greatest_divisor : Stmt := topS 11
abbrev N_greatest_divisor : List Str := ["first", "second"]
theorem sc_greatest_divisor : FnScope N_greatest_divisor ["first", "second"] (defScope s_greatest_divisor) := ⟨rfl, rfl, rfl, by decide +kernel, rfl, by decide +kernel, by decide +kernel⟩
def R_greatest_divisor : List PyData → PyData → Prop := fun ds d => ∃ (first : Nat) (second : Nat), ds = [(eN first), (eN second)] ∧ d = (eN (Nat.gcd first second))
set_option maxHeartbeats 4000000 in
theorem ok_greatest_divisor {P : Program} {w : World} {K : PySem.W.Frag} {mg : Str → Option Value} {base : Heap} (B : Gb K mg) (F : Fd K mg "greatest_divisor" s_greatest_divisor) : Cl P w K mg base 1 "greatest_divisor" ["first", "second"] (SpP K R_greatest_divisor) := by
  have BG := B
  obtain ⟨f, fd, F, hm⟩ := F.ex
  refine ⟨f, fd, fnG_of (k := 0) F sc_greatest_divisor (spP_len fun ds d h => ?_) (fun cdv A outer s H hr hgd => ⟨_, (pss_cons (ps_while PassesOwn.never (pt_cmpR op_gt (pv 1) pe_int (nomark _)) (pss_one (ps_par (i := 0) (j := 1) rfl sc_greatest_divisor.nd rfl rfl (by decide) rfl rfl (pa_cons (pv 1) (pa_cons (pe_op op_mod (pv 0) (pv 1)) pa_nil)) rfl rfl))) (pss_one (ps_ret (pv 0)))), fun vs Q => fn_pure (N := N_greatest_divisor) (fun ds d h => ?_) (fun B S ds d h D hR hN => ?_) vs H Q E0⟩), hm, F.kp, F.binds fun _ _ _ _ _ _ us hl => match us, hl with | [_, _], _ => rfl⟩
  · obtain ⟨first, second, rfl, rfl⟩ := h; rfl
  · obtain ⟨first, second, rfl, rfl⟩ := h; simp
  · obtain ⟨first, second, rfl, rfl⟩ := h
    show Ss _ _ [.da (PyData.int (first : Int)), .da (PyData.int (second : Int))] _ _
    refine s_seq (s_while (α := Nat × Nat) (fun a => [.da (PyData.int (a.1 : Int)), .da (PyData.int (a.2 : Int))]) (fun a => Nat.gcd a.1 a.2 = Nat.gcd first second) (fun a => a.2) ((first, second)) (by rfl) (le_da (by rfl) (le_da (by rfl) le_nil)) (fun a hP => ⟨_, _, (et_test (ed_B0 (ed_var rfl) ed_int)), fun hb => ?_, fun hb => ?_⟩))
    · refine (s_par (ea_cons (ed_var rfl) (ea_cons (ed_I (ed_var rfl) (ed_var rfl) (by have := of_decide_eq_true hb; omega)) ea_nil)) (s_le (ρ1 := [.da (PyData.int (a.2 : Int)), .da (PyData.int ((a.1 : Int) % (a.2 : Int)))]) (le_rfl rfl) ?_))
      exact s_endW ((a.2, a.1 % a.2)) (by exact (gcd_turn a.1 a.2).trans hP) (by have := of_decide_eq_true hb; exact Nat.mod_lt _ (by omega)) (le_da (by rfl) (le_da (by rfl) le_nil))
    · exact s_ret (ed_is (ed_var rfl) (by exact gcd_end hP hb : (PyData.int (a.1 : Int)) = (eN (Nat.gcd first second)))) hR

/-! ### quotient -/
abbrev s_quotient : Stmt := topS 12
abbrev N_quotient : List Str := ["up", "down", "divisor"]
theorem sc_quotient : FnScope N_quotient ["up", "down"] (defScope s_quotient) := ⟨rfl, rfl, rfl, by decide +kernel, rfl, by decide +kernel, by decide +kernel⟩
def R_quotient : List PyData → PyData → Prop := fun ds d => ∃ (up : Int) (down : Int), ds = [(PyData.int up), (PyData.int down)] ∧ (down ≠ 0) ∧ (down.natAbs < 2 ^ 8999) ∧ d = (eQ (Rat.divInt up down))
set_option maxHeartbeats 4000000 in
theorem ok_quotient {P : Program} {w : World} {K : PySem.W.Frag} {mg : Str → Option Value} {base : Heap} (B : Gb K mg) (F : Fd K mg "quotient" s_quotient) (C_greatest_divisor : Cl P w K mg base 1 "greatest_divisor" ["first", "second"] (SpP K R_greatest_divisor)) : Cl P w K mg base 2 "quotient" ["up", "down"] (SpP K R_quotient) := by
  have BG := B
  obtain ⟨f, fd, F, hm⟩ := F.ex
  refine ⟨f, fd, fnG_of (k := 1) F sc_quotient (spP_len fun ds d h => ?_) (fun cdv A outer s H hr hgd => ⟨_, (pss_cons (ps_if (pt_cmpR op_lt (pv 1) pe_int (nomark _)) (pss_one (ps_par (i := 0) (j := 1) rfl sc_quotient.nd rfl rfl (by decide) rfl rfl (pa_cons (pe_un un_neg (pv 0)) (pa_cons (pe_un un_neg (pv 1)) pa_nil)) rfl rfl)) pss_nil) (pss_cons (ps_set (i := 2) sc_quotient.nd rfl (Or.inl rfl) (pe_cl C_greatest_divisor (hr.mono (by decide)) hgd (by rfl) (pa_cons (pe_callB call_abs (by rfl) B.abs_ PyProof.Rows.boot_abs (pa_cons (pv 0) pa_nil)) (pa_cons (pv 1) pa_nil)))) (pss_one (ps_ret (pe_tupF (pa_cons (pe_op op_fdivG (pv 0) (pv 2)) (pa_cons (pe_op op_fdivG (pv 1) (pv 2)) pa_nil))))))), fun vs Q => fn_pure (N := N_quotient) (fun ds d h => ?_) (fun B S ds d h D hR hN => ?_) vs H Q E0⟩), hm, F.kp, F.binds fun _ _ _ _ _ _ us hl => match us, hl with | [_, _], _ => rfl⟩
  · obtain ⟨up, down, rfl, h0, h1, rfl⟩ := h; rfl
  · obtain ⟨up, down, rfl, h0, h1, rfl⟩ := h; simp
  · obtain ⟨up, down, rfl, h0, h1, rfl⟩ := h
    show Ss _ _ [.da (PyData.int up), .da (PyData.int down), .no] _ _
    refine s_seq (s_if (b := (decide (down < (0 : Int)))) (et_test (ed_B0 (ed_var rfl) ed_int)) (fun hc0 => ?_) (fun hc0 => ?_))
    · refine (s_par (ea_cons (ed_neg (ed_var rfl)) (ea_cons (ed_neg (ed_var rfl)) ea_nil)) (s_le (ρ1 := [.da (PyData.int (-up)), .da (PyData.int (-down)), .no]) (le_rfl rfl) ?_))
      refine s_seq (s_asg (ed_call (ds := [(eN ((-up)).natAbs), (eN ((-down)).natAbs)]) (ea_cons (ed_abs (ed_var rfl)) (ea_cons (ed_is (ed_var rfl) (by exact eN_abs (by first | (have := of_decide_eq_true hc0; omega) | (have := of_decide_eq_false hc0; omega)) : _ = (eN ((-down)).natAbs))) ea_nil)) ⟨((-up)).natAbs, ((-down)).natAbs, rfl, rfl⟩) (s_le (ρ1 := [.da (PyData.int (-up)), .da (PyData.int (-down)), .da (PyData.int (((Nat.gcd (((-up)).natAbs) (((-down)).natAbs)) : Nat) : Int))]) (le_rfl rfl) ?_))
      exact s_ret (ed_is (ed_tup (ds := [(PyData.int ((-up) / (((Nat.gcd (((-up)).natAbs) (((-down)).natAbs)) : Nat) : Int))), (PyData.int ((-down) / (((Nat.gcd (((-up)).natAbs) (((-down)).natAbs)) : Nat) : Int)))]) (ea_cons (ed_I (ed_var rfl) (ed_var rfl) (by first | exact quo_div h0 h1 | exact quo_div (by omega) (by rw [Int.natAbs_neg]; exact h1))) (ea_cons (ed_I (ed_var rfl) (ed_var rfl) (by first | exact quo_div h0 h1 | exact quo_div (by omega) (by rw [Int.natAbs_neg]; exact h1))) ea_nil))) (by exact quo_neg hc0 : ((eP PyData.int PyData.int) (((-up) / (((Nat.gcd (((-up)).natAbs) (((-down)).natAbs)) : Nat) : Int)), ((-down) / (((Nat.gcd (((-up)).natAbs) (((-down)).natAbs)) : Nat) : Int)))) = (eQ (Rat.divInt up down)))) hR
    · refine s_next ?_
      refine s_seq (s_asg (ed_call (ds := [(eN (up).natAbs), (eN (down).natAbs)]) (ea_cons (ed_abs (ed_var rfl)) (ea_cons (ed_is (ed_var rfl) (by exact eN_abs (by first | (have := of_decide_eq_true hc0; omega) | (have := of_decide_eq_false hc0; omega)) : _ = (eN (down).natAbs))) ea_nil)) ⟨(up).natAbs, (down).natAbs, rfl, rfl⟩) (s_le (ρ1 := [.da (PyData.int up), .da (PyData.int down), .da (PyData.int (((Nat.gcd ((up).natAbs) ((down).natAbs)) : Nat) : Int))]) (le_rfl rfl) ?_))
      exact s_ret (ed_is (ed_tup (ds := [(PyData.int (up / (((Nat.gcd ((up).natAbs) ((down).natAbs)) : Nat) : Int))), (PyData.int (down / (((Nat.gcd ((up).natAbs) ((down).natAbs)) : Nat) : Int)))]) (ea_cons (ed_I (ed_var rfl) (ed_var rfl) (by first | exact quo_div h0 h1 | exact quo_div (by omega) (by rw [Int.natAbs_neg]; exact h1))) (ea_cons (ed_I (ed_var rfl) (ed_var rfl) (by first | exact quo_div h0 h1 | exact quo_div (by omega) (by rw [Int.natAbs_neg]; exact h1))) ea_nil))) (by exact quo_pos h0 hc0 : ((eP PyData.int PyData.int) ((up / (((Nat.gcd ((up).natAbs) ((down).natAbs)) : Nat) : Int)), (down / (((Nat.gcd ((up).natAbs) ((down).natAbs)) : Nat) : Int)))) = (eQ (Rat.divInt up down)))) hR

/-! ### plus -/
abbrev s_plus : Stmt := topS 13
abbrev N_plus : List Str := ["first", "second"]
theorem sc_plus : FnScope N_plus ["first", "second"] (defScope s_plus) := ⟨rfl, rfl, rfl, by decide +kernel, rfl, by decide +kernel, by decide +kernel⟩
def R_plus : List PyData → PyData → Prop := fun ds d => ∃ (first : Rat) (second : Rat), ds = [(eQ first), (eQ second)] ∧ (Qb first) ∧ (Qb second) ∧ d = (eQ (first + second))
set_option maxHeartbeats 4000000 in
theorem ok_plus {P : Program} {w : World} {K : PySem.W.Frag} {mg : Str → Option Value} {base : Heap} (B : Gb K mg) (F : Fd K mg "plus" s_plus) (C_quotient : Cl P w K mg base 2 "quotient" ["up", "down"] (SpP K R_quotient)) : Cl P w K mg base 3 "plus" ["first", "second"] (SpP K R_plus) := by
  have BG := B
  obtain ⟨f, fd, F, hm⟩ := F.ex
  refine ⟨f, fd, fnG_of (k := 2) F sc_plus (spP_len fun ds d h => ?_) (fun cdv A outer s H hr hgd => ⟨_, (pss_one (ps_ret (pe_cl C_quotient (hr.mono (by decide)) hgd (by rfl) (pa_cons (pe_op op_add (pe_op op_mulG (pe_ix (r := rIxT K) ix_tup (pv 0) pe_int (fun _ _ => rfl)) (pe_ix (r := rIxT K) ix_tup (pv 1) pe_int (fun _ _ => rfl))) (pe_op op_mulG (pe_ix (r := rIxT K) ix_tup (pv 1) pe_int (fun _ _ => rfl)) (pe_ix (r := rIxT K) ix_tup (pv 0) pe_int (fun _ _ => rfl)))) (pa_cons (pe_op op_mulG (pe_ix (r := rIxT K) ix_tup (pv 0) pe_int (fun _ _ => rfl)) (pe_ix (r := rIxT K) ix_tup (pv 1) pe_int (fun _ _ => rfl))) pa_nil))))), fun vs Q => fn_pure (N := N_plus) (fun ds d h => ?_) (fun B S ds d h D hR hN => ?_) vs H Q E0⟩), hm, F.kp, F.binds fun _ _ _ _ _ _ us hl => match us, hl with | [_, _], _ => rfl⟩
  · obtain ⟨first, second, rfl, h0, h1, rfl⟩ := h; rfl
  · obtain ⟨first, second, rfl, h0, h1, rfl⟩ := h; simp
  · obtain ⟨first, second, rfl, h0, h1, rfl⟩ := h
    show Ss _ _ [.da (eQ first), .da (eQ second)] _ _
    exact s_ret (ed_is (ed_call (ds := [(PyData.int (((first).num * ((second).den : Int)) + ((second).num * ((first).den : Int)))), (PyData.int (((first).den : Int) * ((second).den : Int)))]) (ea_cons (ed_I0 (ed_I (ed_ixT (ed_var rfl) ed_int rfl) (ed_ixT (ed_var rfl) ed_int rfl) (by first | exact mul_nd h0 h1 | exact mul_nd h1 h0 | exact mul_dd h0 h1)) (ed_I (ed_ixT (ed_var rfl) ed_int rfl) (ed_ixT (ed_var rfl) ed_int rfl) (by first | exact mul_nd h0 h1 | exact mul_nd h1 h0 | exact mul_dd h0 h1))) (ea_cons (ed_I (ed_ixT (ed_var rfl) ed_int rfl) (ed_ixT (ed_var rfl) ed_int rfl) (by first | exact mul_nd h0 h1 | exact mul_nd h1 h0 | exact mul_dd h0 h1)) ea_nil)) ⟨(((first).num * ((second).den : Int)) + ((second).num * ((first).den : Int))), (((first).den : Int) * ((second).den : Int)), rfl, by exact den_nz2 first second, by exact den_lt2 h0 h1, rfl⟩) (by rw [q_add] : (eQ (Rat.divInt ((((first).num * ((second).den : Int)) + ((second).num * ((first).den : Int)))) ((((first).den : Int) * ((second).den : Int))))) = (eQ (first + second)))) hR

/-! ### times -/
abbrev s_times : Stmt := topS 14
abbrev N_times : List Str := ["first", "second"]
theorem sc_times : FnScope N_times ["first", "second"] (defScope s_times) := ⟨rfl, rfl, rfl, by decide +kernel, rfl, by decide +kernel, by decide +kernel⟩
def R_times : List PyData → PyData → Prop := fun ds d => ∃ (first : Rat) (second : Rat), ds = [(eQ first), (eQ second)] ∧ (Qb first) ∧ (Qb second) ∧ d = (eQ (first * second))
set_option maxHeartbeats 4000000 in
theorem ok_times {P : Program} {w : World} {K : PySem.W.Frag} {mg : Str → Option Value} {base : Heap} (B : Gb K mg) (F : Fd K mg "times" s_times) (C_quotient : Cl P w K mg base 2 "quotient" ["up", "down"] (SpP K R_quotient)) : Cl P w K mg base 3 "times" ["first", "second"] (SpP K R_times) := by
  have BG := B
  obtain ⟨f, fd, F, hm⟩ := F.ex
  refine ⟨f, fd, fnG_of (k := 2) F sc_times (spP_len fun ds d h => ?_) (fun cdv A outer s H hr hgd => ⟨_, (pss_one (ps_ret (pe_cl C_quotient (hr.mono (by decide)) hgd (by rfl) (pa_cons (pe_op op_mulG (pe_ix (r := rIxT K) ix_tup (pv 0) pe_int (fun _ _ => rfl)) (pe_ix (r := rIxT K) ix_tup (pv 1) pe_int (fun _ _ => rfl))) (pa_cons (pe_op op_mulG (pe_ix (r := rIxT K) ix_tup (pv 0) pe_int (fun _ _ => rfl)) (pe_ix (r := rIxT K) ix_tup (pv 1) pe_int (fun _ _ => rfl))) pa_nil))))), fun vs Q => fn_pure (N := N_times) (fun ds d h => ?_) (fun B S ds d h D hR hN => ?_) vs H Q E0⟩), hm, F.kp, F.binds fun _ _ _ _ _ _ us hl => match us, hl with | [_, _], _ => rfl⟩
  · obtain ⟨first, second, rfl, h0, h1, rfl⟩ := h; rfl
  · obtain ⟨first, second, rfl, h0, h1, rfl⟩ := h; simp
  · obtain ⟨first, second, rfl, h0, h1, rfl⟩ := h
    show Ss _ _ [.da (eQ first), .da (eQ second)] _ _
    exact s_ret (ed_is (ed_call (ds := [(PyData.int ((first).num * (second).num)), (PyData.int (((first).den : Int) * ((second).den : Int)))]) (ea_cons (ed_I (ed_ixT (ed_var rfl) ed_int rfl) (ed_ixT (ed_var rfl) ed_int rfl) (by first | exact mul_nn h0 h1 | exact mul_dd h0 h1)) (ea_cons (ed_I (ed_ixT (ed_var rfl) ed_int rfl) (ed_ixT (ed_var rfl) ed_int rfl) (by first | exact mul_nn h0 h1 | exact mul_dd h0 h1)) ea_nil)) ⟨((first).num * (second).num), (((first).den : Int) * ((second).den : Int)), rfl, by exact den_nz2 first second, by exact den_lt2 h0 h1, rfl⟩) (by rw [q_mul] : (eQ (Rat.divInt (((first).num * (second).num)) ((((first).den : Int) * ((second).den : Int))))) = (eQ (first * second)))) hR

/-! ### is_quotient -/
abbrev s_is_quotient : Stmt := topS 16
abbrev N_is_quotient : List Str := ["value", "part"]
theorem sc_is_quotient : FnScope N_is_quotient ["value"] (defScope s_is_quotient) := ⟨rfl, rfl, rfl, by decide +kernel, rfl, by decide +kernel, by decide +kernel⟩
def R_is_quotient : List PyData → PyData → Prop := fun ds d => ∃ (value : Rat), ds = [(eQ value)] ∧ d = (PyData.bool (true))
set_option maxHeartbeats 4000000 in
theorem ok_is_quotient {P : Program} {w : World} {K : PySem.W.Frag} {mg : Str → Option Value} {base : Heap} (B : Gb K mg) (F : Fd K mg "is_quotient" s_is_quotient) (C_greatest_divisor : Cl P w K mg base 1 "greatest_divisor" ["first", "second"] (SpP K R_greatest_divisor)) (C_is_integer : Cl P w K mg base 1 "is_integer" ["value"] (SpP K R_is_integer)) : Cl P w K mg base 2 "is_quotient" ["value"] (SpP K R_is_quotient) := by
  have BG := B
  obtain ⟨f, fd, F, hm⟩ := F.ex
  refine ⟨f, fd, fnG_of (k := 1) F sc_is_quotient (spP_len fun ds d h => ?_) (fun cdv A outer s H hr hgd => ⟨_, (pss_cons (ps_if (PW.pt (pw_or (pt_not (pt_truth (pe_callB (r := rIsi K) call_isi (by rfl) B.isinstance_ boot_isinstance (pa_cons (pv 0) (pa_cons (pe_bltn (v := .ty "tuple") (u := .type "tuple") (by rfl) B.tuple_ PyProof.Rows.boot_tuple rfl) pa_nil))) (fun _ => rfl))) (pw_or (pt_cmpR (r := rNeD K) (op_neD hr.units) (pe_callB (r := rLenS K) call_len_seq (by rfl) B.len_ PySem.boot_len (pa_cons (pv 0) pa_nil)) pe_int (nomark _)) (pw_or1 (pt_not (pt_truth (pe_callB (r := rAll K) (cr_all rfl) (by rfl) B.all_ (by decide +kernel) (pa_cons (pe_lc (own := [("part", 1)]) (g := _) (tt := tYes) rfl sc_is_quotient.nd (pi_tup (pv 0)) (blkOk_by (N := N_is_quotient) (sc := defScope s_is_quotient) (by decide +kernel)) (fun _ _ _ _ _ => (pg_name (i := 1) sc_is_quotient.nd rfl (by first | exact Or.inl rfl | exact Or.inr rfl))) (fun _ _ _ _ _ => pts_nil) (fun _ _ _ _ _ => (pe_cl C_is_integer (hr.mono (by decide)) hgd (by rfl) (pa_cons (pv 1) pa_nil)))) pa_nil)) (fun _ => rfl))))))) pss_never pss_nil) (pss_one (ps_ret (pe_and (pe_cmpR op_ge (pe_ix (r := rIxT K) ix_tup (pv 0) pe_int (fun _ _ => rfl)) pe_int (nomark _)) (pe_one (pe_cmpR (r := rEqD K) (op_eqD hr.units) (pe_cl C_greatest_divisor (hr.mono (by decide)) hgd (by rfl) (pa_cons (pe_callB call_abs (by rfl) B.abs_ PyProof.Rows.boot_abs (pa_cons (pe_ix (r := rIxT K) ix_tup (pv 0) pe_int (fun _ _ => rfl)) pa_nil)) (pa_cons (pe_ix (r := rIxT K) ix_tup (pv 0) pe_int (fun _ _ => rfl)) pa_nil))) pe_int (nomark _))))))), fun vs Q => fn_pure (N := N_is_quotient) (fun ds d h => ?_) (fun B S ds d h D hR hN => ?_) vs H Q E0⟩), hm, F.kp, F.binds fun _ _ _ _ _ _ us hl => match us, hl with | [_], _ => rfl⟩
  · obtain ⟨value, rfl, rfl⟩ := h; rfl
  · obtain ⟨value, rfl, rfl⟩ := h; simp
  · obtain ⟨value, rfl, rfl⟩ := h
    show Ss _ _ [.da (eQ value), .no] _ _
    refine s_seq (s_if (b := ((!true) || ((!decide ((2 : Int) = (2 : Int))) || (!(((([(value).num, ((value).den : Int)]).map fun (x1 : Int) => (isIntD ((PyData.int x1))))).all id))))) (et_or (et_not (et_truB (ed_isi (ed_var rfl) (show kitB "tuple" "tuple" = some true by decide +kernel)))) (fun hb3 => (et_or (et_test (ed_neI (ed_is (ed_lenT (ed_var rfl)) rfl) ed_int)) (fun hb2 => (et_not (et_truB (ed_all (ed_L (el_lcAX (xs := [(value).num, ((value).den : Int)]) (ea := fun x => Itm.hard (PyData.int x)) (enc := PyData.bool) (fb := fun (x1 : Int) => (isIntD ((PyData.int x1)))) (ei_tupX (ed_is (ed_var rfl) (rfl : _ = ((eT PyData.int) [(value).num, ((value).den : Int)])))) (by simp) (by simp) (fun _ _ x1 hx1 => ⟨_, rfl, (eg_name (by simp)), (ed_call (ds := [(PyData.int x1)]) (ea_cons (ed_var rfl) ea_nil) ⟨(PyData.int x1), rfl, rfl⟩)⟩)))))))))) (fun hc0 => ?_) (fun hc0 => ?_))
    · exact absurd hc0 (by simp [isIntD, isi_int, isi_bool])
    · refine s_next ?_
      exact s_ret (ed_is (ed_and (ed_B0 (ed_ixT (ed_var rfl) ed_int rfl) ed_int) (fun hb4 => (ed_eqI (ed_call (ds := [(eN ((value).num).natAbs), (eN (value).den)]) (ea_cons (ed_abs (ed_ixT (ed_var rfl) ed_int rfl)) (ea_cons (ed_is (ed_ixT (ed_var rfl) ed_int rfl) (by rfl : _ = (eN (value).den))) ea_nil)) ⟨((value).num).natAbs, (value).den, rfl, rfl⟩) ed_int))) (by rw [Q_gcd]; have := value.den_pos; simp; omega : (PyData.bool ((decide ((1 : Int) ≤ ((value).den : Int))) && (decide ((((Nat.gcd (((value).num).natAbs) ((value).den)) : Nat) : Int) = (1 : Int))))) = (PyData.bool (true)))) hR

/-! ### choose -/
abbrev s_choose : Stmt := topS 18
abbrev N_choose : List Str := ["many", "few", "found", "at"]
theorem sc_choose : FnScope N_choose ["many", "few"] (defScope s_choose) := ⟨rfl, rfl, rfl, by decide +kernel, rfl, by decide +kernel, by decide +kernel⟩
def R_choose : List PyData → PyData → Prop := fun ds d => ∃ (many : Int) (few : Int), ds = [(PyData.int many), (PyData.int few)] ∧ (0 ≤ many ∧ many ≤ 4000) ∧ d = (PyData.int (chI many few))
set_option maxHeartbeats 4000000 in
theorem ok_choose {P : Program} {w : World} {K : PySem.W.Frag} {mg : Str → Option Value} {base : Heap} (B : Gb K mg) (F : Fd K mg "choose" s_choose) : Cl P w K mg base 1 "choose" ["many", "few"] (SpP K R_choose) := by
  have BG := B
  obtain ⟨f, fd, F, hm⟩ := F.ex
  refine ⟨f, fd, fnG_of (k := 0) F sc_choose (spP_len fun ds d h => ?_) (fun cdv A outer s H hr hgd => ⟨_, (pss_cons (ps_if (PW.pt (pw_or (pt_cmpR op_lt (pv 1) pe_int (nomark _)) (pw_or1 (pt_cmpR op_gt (pv 1) (pv 0) (nomark _))))) (pss_one (ps_ret pe_int)) pss_nil) (pss_cons (ps_set (i := 2) sc_choose.nd rfl (Or.inl rfl) pe_int) (pss_cons (ps_for PassesOwn.never rfl (pi_range1 (by rfl) B.range_ (pa_cons (pv 1) pa_nil)) (pg_name (i := 3) sc_choose.nd rfl (Or.inl rfl)) (pss_one (ps_set (i := 2) sc_choose.nd rfl (Or.inl rfl) (pe_op op_fdivG (pe_op op_mulG (pv 2) (pe_op op_sub (pv 0) (pv 3))) (pe_op op_add (pv 3) pe_int))))) (pss_one (ps_ret (pv 2)))))), fun vs Q => fn_pure (N := N_choose) (fun ds d h => ?_) (fun B S ds d h D hR hN => ?_) vs H Q E0⟩), hm, F.kp, F.binds fun _ _ _ _ _ _ us hl => match us, hl with | [_, _], _ => rfl⟩
  · obtain ⟨many, few, rfl, h0, rfl⟩ := h; rfl
  · obtain ⟨many, few, rfl, h0, rfl⟩ := h; simp
  · obtain ⟨many, few, rfl, h0, rfl⟩ := h
    show Ss _ _ [.da (PyData.int many), .da (PyData.int few), .no, .no] _ _
    refine s_seq (s_if (b := ((decide (few < (0 : Int))) || (decide (many < few)))) (et_or (et_test (ed_B0 (ed_var rfl) ed_int)) (fun hb1 => (et_test (ed_B0 (ed_var rfl) (ed_var rfl))))) (fun hc0 => ?_) (fun hc0 => ?_))
    · exact s_ret (ed_is ed_int (by exact ch_out hc0 : (PyData.int (0 : Int)) = (PyData.int (chI many few)))) hR
    · refine s_next ?_
      refine s_seq (s_asg ed_int (s_le (ρ1 := [.da (PyData.int many), .da (PyData.int few), .da (PyData.int (1 : Int)), .no]) (le_rfl rfl) ?_))
      refine s_seq (s_forX ((List.range (few).toNat)) (fun (i : Nat) => Itm.hard (PyData.int (i : Int))) (ei_rng (ed_var rfl) (by have hc := hc0; simp only [Bool.or_eq_false_iff, decide_eq_false_iff_not] at hc; omega)) (fun i0 => [.da (PyData.int many), .da (PyData.int few), .da (PyData.int ((bin many.toNat i0 : Nat) : Int)), .no]) (le_same (le_same (le_da (by rw [bin_zero]; rfl) (le_no le_nil)))) (fun T0 hT0 i0 x0 hx0 => ⟨_, [3], (eg_name (by simp)), ?_⟩) ?_)
      · show Ss _ _ [.da (PyData.int many), .da (PyData.int few), .da (PyData.int ((bin many.toNat i0 : Nat) : Int)), .da (PyData.int (x0 : Int))] _ _
        have hr := rng_get hx0
        have hc := hc0
        simp only [Bool.or_eq_false_iff, decide_eq_false_iff_not] at hc
        refine (s_asg (ed_I (ed_I (ed_var rfl) (ed_I0 (ed_var rfl) (ed_var rfl)) (by first | assumption | exact mul_l (by omega) (by omega) | exact mul_r (by omega) (by omega))) (ed_I0 (ed_var rfl) ed_int) (by exact div_small (by omega) (by omega))) (s_le (ρ1 := [.da (PyData.int many), .da (PyData.int few), .da (PyData.int ((((bin many.toNat i0 : Nat) : Int) * (many - (x0 : Int))) / ((x0 : Int) + (1 : Int)))), .da (PyData.int (x0 : Int))]) (le_rfl rfl) ?_))
        exact s_end (le_same (le_same (le_da (by rw [hr.1]; exact congrArg PyData.int (bin_stepJ h0.1)) (le_no le_nil))))
      exact s_ret (ed_is (ed_var rfl) (by exact ch_in hc0 : (PyData.int ((bin many.toNat ((List.range (few).toNat)).length : Nat) : Int)) = (PyData.int (chI many few)))) hR

/-! ### _law_q -/
abbrev s_law_q : Stmt := topS 57
abbrev N_law_q : List Str := ["up", "down", "one", "other"]
theorem sc_law_q : FnScope N_law_q ["up", "down"] (defScope s_law_q) := ⟨rfl, rfl, rfl, by decide +kernel, rfl, by decide +kernel, by decide +kernel⟩
def R_law_q : List PyData → PyData → Prop := fun ds d => ∃ (up : Int) (down : Int), ds = [(PyData.int up), (PyData.int down)] ∧ (down ≠ 0) ∧ (down.natAbs < 2 ^ 8999) ∧ d = (eQ (Rat.divInt up down))
set_option maxHeartbeats 4000000 in
theorem ok_law_q {P : Program} {w : World} {K : PySem.W.Frag} {mg : Str → Option Value} {base : Heap} (B : Gb K mg) (F : Fd K mg "_law_q" s_law_q) : Cl P w K mg base 1 "_law_q" ["up", "down"] (SpP K R_law_q) := by
  have BG := B
  obtain ⟨f, fd, F, hm⟩ := F.ex
  refine ⟨f, fd, fnG_of (k := 0) F sc_law_q (spP_len fun ds d h => ?_) (fun cdv A outer s H hr hgd => ⟨_, (pss_cons (ps_par (i := 2) (j := 3) rfl sc_law_q.nd rfl rfl (by decide) rfl rfl (pa_cons (pe_callB call_abs (by rfl) B.abs_ PyProof.Rows.boot_abs (pa_cons (pv 0) pa_nil)) (pa_cons (pe_callB call_abs (by rfl) B.abs_ PyProof.Rows.boot_abs (pa_cons (pv 1) pa_nil)) pa_nil)) rfl rfl) (pss_cons (ps_while PassesOwn.never (pt_cmpR op_gt (pv 3) pe_int (nomark _)) (pss_one (ps_par (i := 2) (j := 3) rfl sc_law_q.nd rfl rfl (by decide) rfl rfl (pa_cons (pv 3) (pa_cons (pe_op op_mod (pe_callTy call_int1 (by rfl) B.int_ PyProof.Rows.boot_int (pa_cons (pv 2) pa_nil)) (pe_callTy call_int1 (by rfl) B.int_ PyProof.Rows.boot_int (pa_cons (pv 3) pa_nil))) pa_nil)) rfl rfl))) (pss_one (ps_ret (pe_ifExp (pt_cmpR op_gt (pv 1) pe_int (nomark _)) (pe_tupF (pa_cons (pe_op op_fdivG (pv 0) (pv 2)) (pa_cons (pe_op op_fdivG (pv 1) (pv 2)) pa_nil))) (pe_tupF (pa_cons (pe_op op_fdivG (pe_op op_sub pe_int (pv 0)) (pv 2)) (pa_cons (pe_op op_fdivG (pe_op op_sub pe_int (pv 1)) (pv 2)) pa_nil)))))))), fun vs Q => fn_pure (N := N_law_q) (fun ds d h => ?_) (fun B S ds d h D hR hN => ?_) vs H Q E0⟩), hm, F.kp, F.binds fun _ _ _ _ _ _ us hl => match us, hl with | [_, _], _ => rfl⟩
  · obtain ⟨up, down, rfl, h0, h1, rfl⟩ := h; rfl
  · obtain ⟨up, down, rfl, h0, h1, rfl⟩ := h; simp
  · obtain ⟨up, down, rfl, h0, h1, rfl⟩ := h
    show Ss _ _ [.da (PyData.int up), .da (PyData.int down), .no, .no] _ _
    refine s_seq (s_par (ea_cons (ed_abs (ed_var rfl)) (ea_cons (ed_abs (ed_var rfl)) ea_nil)) (s_le (ρ1 := [.da (PyData.int up), .da (PyData.int down), .da (PyData.int ((up).natAbs : Int)), .da (PyData.int ((down).natAbs : Int))]) (le_rfl rfl) ?_))
    refine s_seq (s_while (α := Nat × Nat) (fun a => [.da (PyData.int up), .da (PyData.int down), .da (PyData.int (a.1 : Int)), .da (PyData.int (a.2 : Int))]) (fun a => Nat.gcd a.1 a.2 = Nat.gcd up.natAbs down.natAbs) (fun a => a.2) ((up.natAbs, down.natAbs)) (by rfl) (le_same (le_same (le_da (by rfl) (le_da (by rfl) le_nil)))) (fun a hP => ⟨_, _, (et_test (ed_B0 (ed_var rfl) ed_int)), fun hb => ?_, fun hb => ?_⟩))
    · refine (s_par (ea_cons (ed_var rfl) (ea_cons (ed_I (ed_intI (ed_var rfl)) (ed_intI (ed_var rfl)) (by have := of_decide_eq_true hb; omega)) ea_nil)) (s_le (ρ1 := [.da (PyData.int up), .da (PyData.int down), .da (PyData.int (a.2 : Int)), .da (PyData.int ((a.1 : Int) % (a.2 : Int)))]) (le_rfl rfl) ?_))
      exact s_endW ((a.2, a.1 % a.2)) (by exact (gcd_turn a.1 a.2).trans hP) (by have := of_decide_eq_true hb; exact Nat.mod_lt _ (by omega)) (le_same (le_same (le_da (by rfl) (le_da (by rfl) le_nil))))
    · exact s_ret (ed_is (ed_ite (e := eQ) (et_test (ed_B0 (ed_var rfl) ed_int)) (fun hb1 => (ed_is (ed_tup (ds := [(PyData.int (up / (a.1 : Int))), (PyData.int (down / (a.1 : Int)))]) (ea_cons (ed_I (ed_var rfl) (ed_var rfl) (by exact lawq_div h0 h1 hP hb)) (ea_cons (ed_I (ed_var rfl) (ed_var rfl) (by exact lawq_div h0 h1 hP hb)) ea_nil))) (by exact lawq_pos hP hb (by assumption) : _ = (eQ (Rat.divInt up down))))) (fun hb1 => (ed_is (ed_tup (ds := [(PyData.int (((0 : Int) - up) / (a.1 : Int))), (PyData.int (((0 : Int) - down) / (a.1 : Int)))]) (ea_cons (ed_I (ed_I0 ed_int (ed_var rfl)) (ed_var rfl) (by exact lawq_div h0 h1 hP hb)) (ea_cons (ed_I (ed_I0 ed_int (ed_var rfl)) (ed_var rfl) (by exact lawq_div h0 h1 hP hb)) ea_nil))) (by exact lawq_neg hP hb h0 (by assumption) : _ = (eQ (Rat.divInt up down)))))) (by rw [ite_self] : (eQ (if (decide ((0 : Int) < down)) = true then (Rat.divInt up down) else (Rat.divInt up down))) = (eQ (Rat.divInt up down)))) hR

/-! ### _law_add -/
abbrev s_law_add : Stmt := topS 58
abbrev N_law_add : List Str := ["one", "other"]
theorem sc_law_add : FnScope N_law_add ["one", "other"] (defScope s_law_add) := ⟨rfl, rfl, rfl, by decide +kernel, rfl, by decide +kernel, by decide +kernel⟩
def R_law_add : List PyData → PyData → Prop := fun ds d => ∃ (one : (Int × Int)) (other : (Int × Int)), ds = [((eP PyData.int PyData.int) one), ((eP PyData.int PyData.int) other)] ∧ (Pb one) ∧ (Pb other) ∧ d = (eQ (qv one + qv other))
set_option maxHeartbeats 4000000 in
theorem ok_law_add {P : Program} {w : World} {K : PySem.W.Frag} {mg : Str → Option Value} {base : Heap} (B : Gb K mg) (F : Fd K mg "_law_add" s_law_add) (C_law_q : Cl P w K mg base 1 "_law_q" ["up", "down"] (SpP K R_law_q)) : Cl P w K mg base 2 "_law_add" ["one", "other"] (SpP K R_law_add) := by
  have BG := B
  obtain ⟨f, fd, F, hm⟩ := F.ex
  refine ⟨f, fd, fnG_of (k := 1) F sc_law_add (spP_len fun ds d h => ?_) (fun cdv A outer s H hr hgd => ⟨_, (pss_one (ps_ret (pe_cl C_law_q (hr.mono (by decide)) hgd (by rfl) (pa_cons (pe_op op_add (pe_op op_mulG (pe_ix (r := rIxT K) ix_tup (pv 0) pe_int (fun _ _ => rfl)) (pe_ix (r := rIxT K) ix_tup (pv 1) pe_int (fun _ _ => rfl))) (pe_op op_mulG (pe_ix (r := rIxT K) ix_tup (pv 1) pe_int (fun _ _ => rfl)) (pe_ix (r := rIxT K) ix_tup (pv 0) pe_int (fun _ _ => rfl)))) (pa_cons (pe_op op_mulG (pe_ix (r := rIxT K) ix_tup (pv 0) pe_int (fun _ _ => rfl)) (pe_ix (r := rIxT K) ix_tup (pv 1) pe_int (fun _ _ => rfl))) pa_nil))))), fun vs Q => fn_pure (N := N_law_add) (fun ds d h => ?_) (fun B S ds d h D hR hN => ?_) vs H Q E0⟩), hm, F.kp, F.binds fun _ _ _ _ _ _ us hl => match us, hl with | [_, _], _ => rfl⟩
  · obtain ⟨one, other, rfl, h0, h1, rfl⟩ := h; rfl
  · obtain ⟨one, other, rfl, h0, h1, rfl⟩ := h; simp
  · obtain ⟨one, other, rfl, h0, h1, rfl⟩ := h
    show Ss _ _ [.da ((eP PyData.int PyData.int) one), .da ((eP PyData.int PyData.int) other)] _ _
    exact s_ret (ed_is (ed_call (ds := [(PyData.int (((one).1 * (other).2) + ((other).1 * (one).2))), (PyData.int ((one).2 * (other).2))]) (ea_cons (ed_I0 (ed_I (ed_ixT (ed_var rfl) ed_int rfl) (ed_ixT (ed_var rfl) ed_int rfl) (by first | exact mul_b h0.1 h1.2.2 | exact mul_b h1.1 h0.2.2 | exact mul_b h0.2.2 h1.2.2)) (ed_I (ed_ixT (ed_var rfl) ed_int rfl) (ed_ixT (ed_var rfl) ed_int rfl) (by first | exact mul_b h0.1 h1.2.2 | exact mul_b h1.1 h0.2.2 | exact mul_b h0.2.2 h1.2.2))) (ea_cons (ed_I (ed_ixT (ed_var rfl) ed_int rfl) (ed_ixT (ed_var rfl) ed_int rfl) (by first | exact mul_b h0.1 h1.2.2 | exact mul_b h1.1 h0.2.2 | exact mul_b h0.2.2 h1.2.2)) ea_nil)) ⟨(((one).1 * (other).2) + ((other).1 * (one).2)), ((one).2 * (other).2), rfl, by exact Int.mul_ne_zero h0.2.1 h1.2.1, by exact pb_den h0 h1, rfl⟩) (by exact congrArg eQ (pb_add h0 h1).symm : (eQ (Rat.divInt ((((one).1 * (other).2) + ((other).1 * (one).2))) (((one).2 * (other).2)))) = (eQ (qv one + qv other)))) hR

/-! ### _law_mul -/
abbrev s_law_mul : Stmt := topS 59
abbrev N_law_mul : List Str := ["one", "other"]
theorem sc_law_mul : FnScope N_law_mul ["one", "other"] (defScope s_law_mul) := ⟨rfl, rfl, rfl, by decide +kernel, rfl, by decide +kernel, by decide +kernel⟩
def R_law_mul : List PyData → PyData → Prop := fun ds d => ∃ (one : (Int × Int)) (other : (Int × Int)), ds = [((eP PyData.int PyData.int) one), ((eP PyData.int PyData.int) other)] ∧ (Pb one) ∧ (Pb other) ∧ d = (eQ (qv one * qv other))
set_option maxHeartbeats 4000000 in
theorem ok_law_mul {P : Program} {w : World} {K : PySem.W.Frag} {mg : Str → Option Value} {base : Heap} (B : Gb K mg) (F : Fd K mg "_law_mul" s_law_mul) (C_law_q : Cl P w K mg base 1 "_law_q" ["up", "down"] (SpP K R_law_q)) : Cl P w K mg base 2 "_law_mul" ["one", "other"] (SpP K R_law_mul) := by
  have BG := B
  obtain ⟨f, fd, F, hm⟩ := F.ex
  refine ⟨f, fd, fnG_of (k := 1) F sc_law_mul (spP_len fun ds d h => ?_) (fun cdv A outer s H hr hgd => ⟨_, (pss_one (ps_ret (pe_cl C_law_q (hr.mono (by decide)) hgd (by rfl) (pa_cons (pe_op op_mulG (pe_ix (r := rIxT K) ix_tup (pv 0) pe_int (fun _ _ => rfl)) (pe_ix (r := rIxT K) ix_tup (pv 1) pe_int (fun _ _ => rfl))) (pa_cons (pe_op op_mulG (pe_ix (r := rIxT K) ix_tup (pv 0) pe_int (fun _ _ => rfl)) (pe_ix (r := rIxT K) ix_tup (pv 1) pe_int (fun _ _ => rfl))) pa_nil))))), fun vs Q => fn_pure (N := N_law_mul) (fun ds d h => ?_) (fun B S ds d h D hR hN => ?_) vs H Q E0⟩), hm, F.kp, F.binds fun _ _ _ _ _ _ us hl => match us, hl with | [_, _], _ => rfl⟩
  · obtain ⟨one, other, rfl, h0, h1, rfl⟩ := h; rfl
  · obtain ⟨one, other, rfl, h0, h1, rfl⟩ := h; simp
  · obtain ⟨one, other, rfl, h0, h1, rfl⟩ := h
    show Ss _ _ [.da ((eP PyData.int PyData.int) one), .da ((eP PyData.int PyData.int) other)] _ _
    exact s_ret (ed_is (ed_call (ds := [(PyData.int ((one).1 * (other).1)), (PyData.int ((one).2 * (other).2))]) (ea_cons (ed_I (ed_ixT (ed_var rfl) ed_int rfl) (ed_ixT (ed_var rfl) ed_int rfl) (by first | exact mul_b h0.1 h1.1 | exact mul_b h0.2.2 h1.2.2)) (ea_cons (ed_I (ed_ixT (ed_var rfl) ed_int rfl) (ed_ixT (ed_var rfl) ed_int rfl) (by first | exact mul_b h0.1 h1.1 | exact mul_b h0.2.2 h1.2.2)) ea_nil)) ⟨((one).1 * (other).1), ((one).2 * (other).2), rfl, by exact Int.mul_ne_zero h0.2.1 h1.2.1, by exact pb_den h0 h1, rfl⟩) (by exact congrArg eQ (pb_mul _ _).symm : (eQ (Rat.divInt (((one).1 * (other).1)) (((one).2 * (other).2)))) = (eQ (qv one * qv other)))) hR

/-! ### _law_sum -/
abbrev s_law_sum : Stmt := topS 60
abbrev N_law_sum : List Str := ["rows", "total", "row"]
theorem sc_law_sum : FnScope N_law_sum ["rows"] (defScope s_law_sum) := ⟨rfl, rfl, rfl, by decide +kernel, rfl, by decide +kernel, by decide +kernel⟩
def R_law_sum : List PyData → PyData → Prop := fun ds d => ∃ (rows : (Bool × List Rat)), ds = [((eS eQ) rows)] ∧ (∃ M D, (∀ r ∈ rows.2, Bd M D r) ∧ (rows.2.length + 1) * M < 2 ^ 4400 ∧ 0 < D ∧ D < 2 ^ 4400) ∧ d = (eQ (rows.2.sum))
set_option maxHeartbeats 4000000 in
theorem ok_law_sum {P : Program} {w : World} {K : PySem.W.Frag} {mg : Str → Option Value} {base : Heap} (B : Gb K mg) (F : Fd K mg "_law_sum" s_law_sum) (C_law_add : Cl P w K mg base 2 "_law_add" ["one", "other"] (SpP K R_law_add)) : Cl P w K mg base 3 "_law_sum" ["rows"] (SpP K R_law_sum) := by
  have BG := B
  obtain ⟨f, fd, F, hm⟩ := F.ex
  refine ⟨f, fd, fnG_of (k := 2) F sc_law_sum (spP_len fun ds d h => ?_) (fun cdv A outer s H hr hgd => ⟨_, (pss_cons (ps_set (i := 1) sc_law_sum.nd rfl (Or.inl rfl) (pe_tupF (pa_cons pe_int (pa_cons pe_int pa_nil)))) (pss_cons (ps_for PassesOwn.never rfl (pi_seq (pv 0)) (pg_name (i := 2) sc_law_sum.nd rfl (Or.inl rfl)) (pss_one (ps_set (i := 1) sc_law_sum.nd rfl (Or.inl rfl) (pe_cl C_law_add (hr.mono (by decide)) hgd (by rfl) (pa_cons (pv 1) (pa_cons (pv 2) pa_nil)))))) (pss_one (ps_ret (pv 1))))), fun vs Q => fn_pure (N := N_law_sum) (fun ds d h => ?_) (fun B S ds d h D hR hN => ?_) vs H Q E0⟩), hm, F.kp, F.binds fun _ _ _ _ _ _ us hl => match us, hl with | [_], _ => rfl⟩
  · obtain ⟨rows, rfl, h0, rfl⟩ := h; rfl
  · obtain ⟨rows, rfl, h0, rfl⟩ := h; simp
  · obtain ⟨rows, rfl, h0, rfl⟩ := h
    show Ss _ _ [.da ((eS eQ) rows), .no, .no] _ _
    refine s_seq (s_asg (ed_is (d1 := eQ (0 : Rat)) (ed_tup (ds := [PyData.int (0 : Int), PyData.int (1 : Int)]) (ea_cons ed_int (ea_cons ed_int ea_nil))) (by rfl)) (s_le (ρ1 := [.da ((eS eQ) rows), .da (eQ (0 : Rat)), .no]) (le_rfl rfl) ?_))
    refine s_seq (s_forX ((rows).2) (fun x => Itm.hard (eQ x)) (ei_seqX (ed_var rfl)) (fun i0 => [.da ((eS eQ) rows), .da (eQ (((rows).2.take (i0)).sum)), .no]) (le_same (le_da (by rfl) (le_no le_nil))) (fun T0 hT0 i0 x0 hx0 => ⟨_, [2], (eg_name (by simp)), ?_⟩) ?_)
    · show Ss _ _ [.da ((eS eQ) rows), .da (eQ (((rows).2.take (i0)).sum)), .da (eQ x0)] _ _
      refine (s_asg (ed_is (ed_call (ds := [((eP PyData.int PyData.int) (qp (((rows).2.take (i0)).sum))), ((eP PyData.int PyData.int) (qp x0))]) (ea_cons (ed_is (ed_var rfl) (rfl : _ = ((eP PyData.int PyData.int) (qp (((rows).2.take (i0)).sum))))) (ea_cons (ed_is (ed_var rfl) (rfl : _ = ((eP PyData.int PyData.int) (qp x0)))) ea_nil)) ⟨(qp (((rows).2.take (i0)).sum)), (qp x0), rfl, by exact (sum_qb h0 i0 hx0).1.pb, by exact (sum_qb h0 i0 hx0).2.pb, rfl⟩) (by simp only [qv_qp] : _ = (eQ ((((rows).2.take (i0)).sum) + x0)))) (s_le (ρ1 := [.da ((eS eQ) rows), .da (eQ ((((rows).2.take (i0)).sum) + x0)), .da (eQ x0)]) (le_rfl rfl) ?_))
      exact s_end (le_same (le_da (by rw [sumQ_step hx0]) (le_no le_nil)))
    exact s_ret (ed_is (ed_var rfl) (by rw [List.take_length] : (eQ (((rows).2.take (((rows).2).length)).sum)) = (eQ (rows.2.sum)))) hR

/-! ### _law_choose -/
abbrev s_law_choose : Stmt := topS 62
abbrev N_law_choose : List Str := ["many", "few", "found", "k"]
theorem sc_law_choose : FnScope N_law_choose ["many", "few"] (defScope s_law_choose) := ⟨rfl, rfl, rfl, by decide +kernel, rfl, by decide +kernel, by decide +kernel⟩
def R_law_choose : List PyData → PyData → Prop := fun ds d => ∃ (many : Int) (few : Int), ds = [(PyData.int many), (PyData.int few)] ∧ (0 ≤ many ∧ many ≤ 4000) ∧ (few ≤ 4000 ∧ -4000 ≤ few) ∧ d = (PyData.int (chI many few))
set_option maxHeartbeats 4000000 in
theorem ok_law_choose {P : Program} {w : World} {K : PySem.W.Frag} {mg : Str → Option Value} {base : Heap} (B : Gb K mg) (F : Fd K mg "_law_choose" s_law_choose) : Cl P w K mg base 1 "_law_choose" ["many", "few"] (SpP K R_law_choose) := by
  have BG := B
  obtain ⟨f, fd, F, hm⟩ := F.ex
  refine ⟨f, fd, fnG_of (k := 0) F sc_law_choose (spP_len fun ds d h => ?_) (fun cdv A outer s H hr hgd => ⟨_, (pss_cons (ps_set (i := 2) sc_law_choose.nd rfl (Or.inl rfl) pe_int) (pss_cons (ps_for PassesOwn.never rfl (pi_range1 (by rfl) B.range_ (pa_cons (pv 1) pa_nil)) (pg_name (i := 3) sc_law_choose.nd rfl (Or.inl rfl)) (pss_one (ps_set (i := 2) sc_law_choose.nd rfl (Or.inl rfl) (pe_op op_fdivG (pe_op op_mulG (pv 2) (pe_op op_sub (pv 0) (pv 3))) (pe_op op_add (pv 3) pe_int))))) (pss_one (ps_ret (pe_ifExp (pt_chain op_le op_le pe_int (pv 1) (pv 0)) (pv 2) pe_int))))), fun vs Q => fn_pure (N := N_law_choose) (fun ds d h => ?_) (fun B S ds d h D hR hN => ?_) vs H Q E0⟩), hm, F.kp, F.binds fun _ _ _ _ _ _ us hl => match us, hl with | [_, _], _ => rfl⟩
  · obtain ⟨many, few, rfl, h0, h1, rfl⟩ := h; rfl
  · obtain ⟨many, few, rfl, h0, h1, rfl⟩ := h; simp
  · obtain ⟨many, few, rfl, h0, h1, rfl⟩ := h
    show Ss _ _ [.da (PyData.int many), .da (PyData.int few), .no, .no] _ _
    refine s_seq (s_asg ed_int (s_le (ρ1 := [.da (PyData.int many), .da (PyData.int few), .da (PyData.int (1 : Int)), .no]) (le_rfl rfl) ?_))
    refine s_seq (s_forX ((List.range (few).toNat)) (fun (i : Nat) => Itm.hard (PyData.int (i : Int))) (ei_rng (ed_var rfl) (by omega)) (fun i0 => [.da (PyData.int many), .da (PyData.int few), .da (PyData.int ((bin many.toNat (i0) : Nat) : Int)), .no]) (le_same (le_same (le_da (by rw [bin_zero]; rfl) (le_no le_nil)))) (fun T0 hT0 i0 x0 hx0 => ⟨_, [3], (eg_name (by simp)), ?_⟩) ?_)
    · show Ss _ _ [.da (PyData.int many), .da (PyData.int few), .da (PyData.int ((bin many.toNat (i0) : Nat) : Int)), .da (PyData.int (x0 : Int))] _ _
      have hlt0 := (rng_get hx0).2
      refine s_le (ρ1 := [.da (PyData.int many), .da (PyData.int few), .da (PyData.int ((bin many.toNat (i0) : Nat) : Int)), .da (PyData.int (i0 : Int))]) (le_rfl (by rw [(rng_get hx0).1])) ?_
      refine (s_asg (ed_I (ed_I (ed_var rfl) (ed_I0 (ed_var rfl) (ed_var rfl)) (by first | assumption | exact mul_l (by omega) (by omega) | exact mul_r (by omega) (by omega))) (ed_I0 (ed_var rfl) ed_int) (by exact div_small (by omega) (by omega))) (s_le (ρ1 := [.da (PyData.int many), .da (PyData.int few), .da (PyData.int ((((bin many.toNat (i0) : Nat) : Int) * (many - (i0 : Int))) / ((i0 : Int) + (1 : Int)))), .da (PyData.int (i0 : Int))]) (le_rfl rfl) ?_))
      exact s_end (le_same (le_same (le_da (by exact congrArg PyData.int (bin_stepJ h0.1)) (le_no le_nil))))
    exact s_ret (ed_is (ed_ite (e := PyData.int) (et_chain (ed_chain ed_int (ed_var rfl) (fun hb1 => (ed_var rfl)))) (fun hb2 => (ed_var rfl)) (fun hb2 => ed_int)) (by exact lawch_ret h0.1 : (PyData.int (if (decide ((0 : Int) ≤ few) && decide (few ≤ many)) = true then ((bin many.toNat (((List.range (few).toNat)).length) : Nat) : Int) else (0 : Int))) = (PyData.int (chI many few)))) hR

/-! ### _law_same -/
abbrev s_law_same : Stmt := topS 56
abbrev N_law_same : List Str := ["actual", "due"]
theorem sc_law_same : FnScope N_law_same ["actual", "due"] (defScope s_law_same) := ⟨rfl, rfl, rfl, by decide +kernel, rfl, by decide +kernel, by decide +kernel⟩
def R_law_same : List PyData → PyData → Prop := fun ds d => ∃ (actual : PyData) (due : PyData), ds = [actual, due] ∧ (actual = due) ∧ (Gd 20 15000000 actual) ∧ d = (PyData.bool (true))
set_option maxHeartbeats 4000000 in
theorem ok_law_same {P : Program} {w : World} {K : PySem.W.Frag} {mg : Str → Option Value} {base : Heap} (B : Gb K mg) (F : Fd K mg "_law_same" s_law_same) : Cl P w K mg base 1 "_law_same" ["actual", "due"] (SpP K R_law_same) := by
  have BG := B
  obtain ⟨f, fd, F, hm⟩ := F.ex
  refine ⟨f, fd, fnG_of (k := 0) F sc_law_same (spP_len fun ds d h => ?_) (fun cdv A outer s H hr hgd => ⟨_, (pss_one (ps_ret (pe_and (pe_cmpR (r := rEqD K) (op_eqD hr.units) (pv 0) (pv 1) (nomark _)) (pe_one (pe_cmpR op_eq (pe_callB (r := rRepr K) (call_repr hgd (Nat.lt_of_le_of_lt (Nat.add_le_add_left (by decide : 61 ≤ 64) _) hr.units)) (by rfl) B.repr_ (by decide +kernel) (pa_cons (pv 0) pa_nil)) (pe_callB (r := rRepr K) (call_repr hgd (Nat.lt_of_le_of_lt (Nat.add_le_add_left (by decide : 61 ≤ 64) _) hr.units)) (by rfl) B.repr_ (by decide +kernel) (pa_cons (pv 1) pa_nil)) (nomark _)))))), fun vs Q => fn_pure (N := N_law_same) (fun ds d h => ?_) (fun B S ds d h D hR hN => ?_) vs H Q E0⟩), hm, F.kp, F.binds fun _ _ _ _ _ _ us hl => match us, hl with | [_, _], _ => rfl⟩
  · obtain ⟨actual, due, rfl, h0, h1, rfl⟩ := h; rfl
  · obtain ⟨actual, due, rfl, h0, h1, rfl⟩ := h; simp
  · obtain ⟨actual, due, rfl, h0, h1, rfl⟩ := h
    show Ss _ _ [.da actual, .da due] _ _
    exact s_ret (ed_is (ed_and (ed_eq (ed_var rfl) (ed_var rfl) (by exact gd_shaped h1) (by exact gd_shaped (h0 ▸ h1))) (fun hb1 => (ed_eqS (ed_repr (ed_var rfl) (by exact gd_show h1)) (ed_repr (ed_var rfl) (by exact gd_show (h0 ▸ h1)))))) (by exact same_ret h0 h1 : (PyData.bool ((PyData.eqv actual due) && (decide ((PyData.shown actual) = (PyData.shown due))))) = (PyData.bool (true)))) hR

/-! ### _law_less -/
abbrev s_law_less : Stmt := topS 61
abbrev N_law_less : List Str := ["one", "other"]
theorem sc_law_less : FnScope N_law_less ["one", "other"] (defScope s_law_less) := ⟨rfl, rfl, rfl, by decide +kernel, rfl, by decide +kernel, by decide +kernel⟩
def R_law_less : List PyData → PyData → Prop := fun ds d => ∃ (one : (Int × Int)) (other : (Int × Int)), ds = [((eP PyData.int PyData.int) one), ((eP PyData.int PyData.int) other)] ∧ (0 < one.2) ∧ (0 < other.2) ∧ (Pb one) ∧ (Pb other) ∧ d = (PyData.bool (decide (qv one < qv other)))
set_option maxHeartbeats 4000000 in
theorem ok_law_less {P : Program} {w : World} {K : PySem.W.Frag} {mg : Str → Option Value} {base : Heap} (B : Gb K mg) (F : Fd K mg "_law_less" s_law_less) : Cl P w K mg base 1 "_law_less" ["one", "other"] (SpP K R_law_less) := by
  have BG := B
  obtain ⟨f, fd, F, hm⟩ := F.ex
  refine ⟨f, fd, fnG_of (k := 0) F sc_law_less (spP_len fun ds d h => ?_) (fun cdv A outer s H hr hgd => ⟨_, (pss_one (ps_ret (pe_cmpR op_lt (pe_op op_mulG (pe_ix (r := rIxT K) ix_tup (pv 0) pe_int (fun _ _ => rfl)) (pe_ix (r := rIxT K) ix_tup (pv 1) pe_int (fun _ _ => rfl))) (pe_op op_mulG (pe_ix (r := rIxT K) ix_tup (pv 1) pe_int (fun _ _ => rfl)) (pe_ix (r := rIxT K) ix_tup (pv 0) pe_int (fun _ _ => rfl))) (nomark _)))), fun vs Q => fn_pure (N := N_law_less) (fun ds d h => ?_) (fun B S ds d h D hR hN => ?_) vs H Q E0⟩), hm, F.kp, F.binds fun _ _ _ _ _ _ us hl => match us, hl with | [_, _], _ => rfl⟩
  · obtain ⟨one, other, rfl, h0, h1, h2, h3, rfl⟩ := h; rfl
  · obtain ⟨one, other, rfl, h0, h1, h2, h3, rfl⟩ := h; simp
  · obtain ⟨one, other, rfl, h0, h1, h2, h3, rfl⟩ := h
    show Ss _ _ [.da ((eP PyData.int PyData.int) one), .da ((eP PyData.int PyData.int) other)] _ _
    exact s_ret (ed_is (ed_B0 (ed_I (ed_ixT (ed_var rfl) ed_int rfl) (ed_ixT (ed_var rfl) ed_int rfl) (by first | exact mul_b h2.1 h3.2.2 | exact mul_b h3.1 h2.2.2)) (ed_I (ed_ixT (ed_var rfl) ed_int rfl) (ed_ixT (ed_var rfl) ed_int rfl) (by first | exact mul_b h2.1 h3.2.2 | exact mul_b h3.1 h2.2.2))) (by exact congrArg PyData.bool (less_iff h0 h1) : (PyData.bool (decide (((one).1 * (other).2) < ((other).1 * (one).2)))) = (PyData.bool (decide (qv one < qv other))))) hR

/-! ### is_leg -/
abbrev s_is_leg : Stmt := topS 21
abbrev N_is_leg : List Str := ["value"]
theorem sc_is_leg : FnScope N_is_leg ["value"] (defScope s_is_leg) := ⟨rfl, rfl, rfl, by decide +kernel, rfl, by decide +kernel, by decide +kernel⟩
def R_is_leg : List PyData → PyData → Prop := fun ds d => ∃ (value : (Rat × Str)), ds = [((eP eQ PyData.str) value)] ∧ (LegOk value) ∧ d = (PyData.bool (true))
set_option maxHeartbeats 4000000 in
theorem ok_is_leg {P : Program} {w : World} {K : PySem.W.Frag} {mg : Str → Option Value} {base : Heap} (B : Gb K mg) (F : Fd K mg "is_leg" s_is_leg) (C_is_quotient : Cl P w K mg base 2 "is_quotient" ["value"] (SpP K R_is_quotient)) : Cl P w K mg base 3 "is_leg" ["value"] (SpP K R_is_leg) := by
  have BG := B
  obtain ⟨f, fd, F, hm⟩ := F.ex
  refine ⟨f, fd, fnG_of (k := 2) F sc_is_leg (spP_len fun ds d h => ?_) (fun cdv A outer s H hr hgd => ⟨_, (pss_cons (ps_if (PW.pt (pw_or (pt_not (pt_truth (pe_callB (r := rIsi K) call_isi (by rfl) B.isinstance_ boot_isinstance (pa_cons (pv 0) (pa_cons (pe_bltn (v := .ty "tuple") (u := .type "tuple") (by rfl) B.tuple_ PyProof.Rows.boot_tuple rfl) pa_nil))) (fun _ => rfl))) (pw_or (pt_cmpR (r := rNeD K) (op_neD hr.units) (pe_callB (r := rLenS K) call_len_seq (by rfl) B.len_ PySem.boot_len (pa_cons (pv 0) pa_nil)) pe_int (nomark _)) (pw_or1 (pt_not (pt_truth (pe_cl C_is_quotient (hr.mono (by decide)) hgd (by rfl) (pa_cons (pe_ix (r := rIxT K) ix_tup (pv 0) pe_int (fun _ _ => rfl)) pa_nil)) (fun _ => rfl))))))) pss_never pss_nil) (pss_cons (ps_if (PW.pt (pw_or (pt_cmpR op_gt (pe_ix (r := rIxT K) ix_tup (pe_ix (r := rIxT K) ix_tup (pv 0) pe_int (fun _ _ => rfl)) pe_int (fun _ _ => rfl)) (pe_glob (v := .int 1000) rfl B.c_MAX_PART.choose_spec ⟨_, rfl⟩) (nomark _)) (pw_or1 (pt_not (pt_chain op_le op_le (pe_ix (r := rIxT K) ix_tup (pe_ix (r := rIxT K) ix_tup (pv 0) pe_int (fun _ _ => rfl)) pe_int (fun _ _ => rfl)) (pe_ix (r := rIxT K) ix_tup (pe_ix (r := rIxT K) ix_tup (pv 0) pe_int (fun _ _ => rfl)) pe_int (fun _ _ => rfl)) (pe_glob (v := .int 1000000) rfl B.c_MAX_AMOUNT.choose_spec ⟨_, rfl⟩)))))) pss_never pss_nil) (pss_one (ps_ret (pe_and (pe_callB (r := rIsi K) call_isi (by rfl) B.isinstance_ boot_isinstance (pa_cons (pe_ix (r := rIxT K) ix_tup (pv 0) pe_int (fun _ _ => rfl)) (pa_cons (pe_bltn (v := .ty "str") (u := .type "str") (by rfl) B.str_ (by decide +kernel) rfl) pa_nil))) (pe_one (pe_cmpR (r := rIn K false) op_in_seq (pe_ix (r := rIxT K) ix_tup (pv 0) pe_int (fun _ _ => rfl)) (pe_glob (v := .ref B.c_WORDS.choose) rfl B.c_WORDS.choose_spec.1 rfl) (by rfl)))))))), fun vs Q => fn_pure (N := N_is_leg) (fun ds d h => ?_) (fun B S ds d h D hR hN => ?_) vs H Q E0⟩), hm, F.kp, F.binds fun _ _ _ _ _ _ us hl => match us, hl with | [_], _ => rfl⟩
  · obtain ⟨value, rfl, h0, rfl⟩ := h; rfl
  · obtain ⟨value, rfl, h0, rfl⟩ := h; simp
  · obtain ⟨value, rfl, h0, rfl⟩ := h
    obtain ⟨⟨hd, hn, hm⟩, hw⟩ := h0
    have hp := value.1.den_pos
    show Ss _ _ [.da ((eP eQ PyData.str) value)] _ _
    refine s_seq (s_if (b := ((!true) || ((!decide ((2 : Int) = (2 : Int))) || (!(true))))) (et_or (et_not (et_truB (ed_isi (ed_var rfl) (show kitB "tuple" "tuple" = some true by decide +kernel)))) (fun hb2 => (et_or (et_test (ed_neI (ed_is (ed_lenT (ed_var rfl)) rfl) ed_int)) (fun hb1 => (et_not (et_truB (ed_call (ds := [(eQ (value).1)]) (ea_cons (ed_ixT (ed_var rfl) ed_int rfl) ea_nil) ⟨(value).1, rfl, rfl⟩))))))) (fun hc0 => ?_) (fun hc0 => ?_))
    · exact absurd hc0 (by simp)
    · refine s_next ?_
      refine s_seq (s_if (b := ((decide ((1000 : Int) < (((value).1).den : Int))) || (!(decide ((((value).1).den : Int) ≤ ((value).1).num) && decide (((value).1).num ≤ (1000000 : Int)))))) (et_or (et_test (ed_B0 (ed_ixT (ed_ixT (ed_var rfl) ed_int rfl) ed_int rfl) ed_int)) (fun hb4 => (et_not (et_chain (ed_chain (ed_ixT (ed_ixT (ed_var rfl) ed_int rfl) ed_int rfl) (ed_ixT (ed_ixT (ed_var rfl) ed_int rfl) ed_int rfl) (fun hb3 => ed_int)))))) (fun hc1 => ?_) (fun hc1 => ?_))
      · exact absurd hc1 (by simp; omega)
      · refine s_next ?_
        exact s_ret (ed_is (ed_and (ed_isi (ed_ixT (ed_var rfl) ed_int rfl) (show kitB "str" "str" = some true by decide +kernel)) (fun hb5 => (ed_inTS (ed_ixT (ed_var rfl) ed_int rfl) (ed_is (d1 := (eT PyData.str) [Str.ofString "won", Str.ofString "lost", Str.ofString "void"]) (ed_ref BG.c_WORDS.choose_spec.2) rfl)))) (by rw [decide_eq_true hw]; rfl : (PyData.bool (true && (decide ((value).2 ∈ [Str.ofString "won", Str.ofString "lost", Str.ofString "void"])))) = (PyData.bool (true)))) hR

/-! ### check_legs -/
abbrev s_check_legs : Stmt := topS 22
abbrev N_check_legs : List Str := ["legs", "leg"]
theorem sc_check_legs : FnScope N_check_legs ["legs"] (defScope s_check_legs) := ⟨rfl, rfl, rfl, by decide +kernel, rfl, by decide +kernel, by decide +kernel⟩
def R_check_legs : List PyData → PyData → Prop := fun ds d => ∃ (legs : (List (Rat × Str))), ds = [((eT (eP eQ PyData.str)) legs)] ∧ (LegsOk 10 legs) ∧ d = PyData.none
set_option maxHeartbeats 4000000 in
theorem ok_check_legs {P : Program} {w : World} {K : PySem.W.Frag} {mg : Str → Option Value} {base : Heap} (B : Gb K mg) (F : Fd K mg "check_legs" s_check_legs) (C_is_leg : Cl P w K mg base 3 "is_leg" ["value"] (SpP K R_is_leg)) : Cl P w K mg base 4 "check_legs" ["legs"] (SpP K R_check_legs) := by
  have BG := B
  obtain ⟨f, fd, F, hm⟩ := F.ex
  refine ⟨f, fd, fnG_of (k := 3) F sc_check_legs (spP_len fun ds d h => ?_) (fun cdv A outer s H hr hgd => ⟨_, (pss_one (ps_if (PW.pt (pw_or (pt_not (pt_truth (pe_callB (r := rIsi K) call_isi (by rfl) B.isinstance_ boot_isinstance (pa_cons (pv 0) (pa_cons (pe_bltn (v := .ty "tuple") (u := .type "tuple") (by rfl) B.tuple_ PyProof.Rows.boot_tuple rfl) pa_nil))) (fun _ => rfl))) (pw_or (pt_not (pt_chain op_le op_le pe_int (pe_callB (r := rLenS K) call_len_seq (by rfl) B.len_ PySem.boot_len (pa_cons (pv 0) pa_nil)) (pe_glob (v := .int 10) rfl B.c_MAX_LEGS.choose_spec ⟨_, rfl⟩))) (pw_or1 (pt_not (pt_truth (pe_callB (r := rAll K) (cr_all rfl) (by rfl) B.all_ (by decide +kernel) (pa_cons (pe_lc (own := [("leg", 1)]) (g := _) (tt := tYes) rfl sc_check_legs.nd (pi_tup (pv 0)) (blkOk_by (N := N_check_legs) (sc := defScope s_check_legs) (by decide +kernel)) (fun _ _ _ _ _ => (pg_name (i := 1) sc_check_legs.nd rfl (by first | exact Or.inl rfl | exact Or.inr rfl))) (fun _ _ _ _ _ => pts_nil) (fun _ _ _ _ _ => (pe_cl C_is_leg (hr.mono (by decide)) hgd (by rfl) (pa_cons (pv 1) pa_nil)))) pa_nil)) (fun _ => rfl))))))) pss_never pss_nil)), fun vs Q => fn_pure (N := N_check_legs) (fun ds d h => ?_) (fun B S ds d h D hR hN => ?_) vs H Q E0⟩), hm, F.kp, F.binds fun _ _ _ _ _ _ us hl => match us, hl with | [_], _ => rfl⟩
  · obtain ⟨legs, rfl, h0, rfl⟩ := h; rfl
  · obtain ⟨legs, rfl, h0, rfl⟩ := h; simp
  · obtain ⟨legs, rfl, h0, rfl⟩ := h
    have hl1 := h0.1
    have hl2 := h0.2.1
    show Ss _ _ [.da ((eT (eP eQ PyData.str)) legs), .no] _ _
    refine (s_skip (et_or (et_not (et_truB (ed_isi (ed_var rfl) (show kitB "tuple" "tuple" = some true by decide +kernel)))) (fun hb4 => (et_or (et_not (et_chain (ed_chain ed_int (ed_lenTX (ed_var rfl)) (fun hb1 => ed_int)))) (fun hb3 => (et_not (et_truB (ed_all (ed_L (el_lcAX (xs := legs) (ea := fun x => Itm.hard ((eP eQ PyData.str) x)) (enc := PyData.bool) (fb := fun (x2 : (Rat × Str)) => (true)) (ei_tupX (ed_var rfl)) (by omega) (by simp) (fun _ _ x2 hx2 => ⟨_, rfl, (eg_name (by simp)), (ed_call (ds := [((eP eQ PyData.str) x2)]) (ea_cons (ed_var rfl) ea_nil) ⟨x2, rfl, by exact h0.2.2 _ (by assumption), rfl⟩)⟩)))))))))) (by rw [all_id (fun _ _ => rfl)]; simp; omega : ((!true) || ((!(decide ((1 : Int) ≤ ((legs).length : Int)) && decide (((legs).length : Int) ≤ (10 : Int)))) || (!((((legs).map fun (x2 : (Rat × Str)) => (true))).all id)))) = false) ?_)
    exact hN rfl _ _

/-! ### check_sizes -/
abbrev s_check_sizes : Stmt := topS 23
abbrev N_check_sizes : List Str := ["legs", "sizes", "size", "at"]
theorem sc_check_sizes : FnScope N_check_sizes ["legs", "sizes"] (defScope s_check_sizes) := ⟨rfl, rfl, rfl, by decide +kernel, rfl, by decide +kernel, by decide +kernel⟩
def R_check_sizes : List PyData → PyData → Prop := fun ds d => ∃ (legs : (List (Rat × Str))) (sizes : (List Int)), ds = [((eT (eP eQ PyData.str)) legs), ((eT PyData.int) sizes)] ∧ (LegsOk 10 legs) ∧ (SzOk legs.length sizes) ∧ d = PyData.none
set_option maxHeartbeats 4000000 in
theorem ok_check_sizes {P : Program} {w : World} {K : PySem.W.Frag} {mg : Str → Option Value} {base : Heap} (B : Gb K mg) (F : Fd K mg "check_sizes" s_check_sizes) (C_is_integer : Cl P w K mg base 1 "is_integer" ["value"] (SpP K R_is_integer)) : Cl P w K mg base 2 "check_sizes" ["legs", "sizes"] (SpP K R_check_sizes) := by
  have BG := B
  obtain ⟨f, fd, F, hm⟩ := F.ex
  refine ⟨f, fd, fnG_of (k := 1) F sc_check_sizes (spP_len fun ds d h => ?_) (fun cdv A outer s H hr hgd => ⟨_, (pss_cons (ps_if (PW.pt (pw_or (pt_not (pt_truth (pe_callB (r := rIsi K) call_isi (by rfl) B.isinstance_ boot_isinstance (pa_cons (pv 1) (pa_cons (pe_bltn (v := .ty "tuple") (u := .type "tuple") (by rfl) B.tuple_ PyProof.Rows.boot_tuple rfl) pa_nil))) (fun _ => rfl))) (pw_or (pt_not (pt_truth (pv 1) (fun _ => rfl))) (pw_or1 (pt_not (pt_truth (pe_callB (r := rAll K) (cr_all rfl) (by rfl) B.all_ (by decide +kernel) (pa_cons (pe_lc (own := [("size", 2)]) (g := _) (tt := tYes) rfl sc_check_sizes.nd (pi_tup (pv 1)) (blkOk_by (N := N_check_sizes) (sc := defScope s_check_sizes) (by decide +kernel)) (fun _ _ _ _ _ => (pg_name (i := 2) sc_check_sizes.nd rfl (by first | exact Or.inl rfl | exact Or.inr rfl))) (fun _ _ _ _ _ => pts_nil) (fun _ _ _ _ _ => (pe_cl C_is_integer (hr.mono (by decide)) hgd (by rfl) (pa_cons (pv 2) pa_nil)))) pa_nil)) (fun _ => rfl))))))) pss_never pss_nil) (pss_cons (ps_if (pt_not (pt_truth (pe_callB (r := rAll K) (cr_all rfl) (by rfl) B.all_ (by decide +kernel) (pa_cons (pe_lc (own := [("size", 2)]) (g := _) (tt := tYes) rfl sc_check_sizes.nd (pi_tup (pv 1)) (blkOk_by (N := N_check_sizes) (sc := defScope s_check_sizes) (by decide +kernel)) (fun _ _ _ _ _ => (pg_name (i := 2) sc_check_sizes.nd rfl (by first | exact Or.inl rfl | exact Or.inr rfl))) (fun _ _ _ _ _ => pts_nil) (fun _ _ _ _ _ => (pe_chain op_le op_le pe_int (pv 2) (pe_callB (r := rLenS K) call_len_seq (by rfl) B.len_ PySem.boot_len (pa_cons (pv 0) pa_nil))))) pa_nil)) (fun _ => rfl))) pss_never pss_nil) (pss_one (ps_if (pt_not (pt_truth (pe_callB (r := rAll K) (cr_all rfl) (by rfl) B.all_ (by decide +kernel) (pa_cons (pe_lc (own := [("at", 3)]) (g := _) (tt := tYes) rfl sc_check_sizes.nd (pi_range1 (by rfl) B.range_ (pa_cons (pe_op op_sub (pe_callB (r := rLenS K) call_len_seq (by rfl) B.len_ PySem.boot_len (pa_cons (pv 1) pa_nil)) pe_int) pa_nil)) (blkOk_by (N := N_check_sizes) (sc := defScope s_check_sizes) (by decide +kernel)) (fun _ _ _ _ _ => (pg_name (i := 3) sc_check_sizes.nd rfl (by first | exact Or.inl rfl | exact Or.inr rfl))) (fun _ _ _ _ _ => pts_nil) (fun _ _ _ _ _ => (pe_cmpR op_lt (pe_ix (r := rIxT K) ix_tup (pv 1) (pv 3) (fun _ _ => rfl)) (pe_ix (r := rIxT K) ix_tup (pv 1) (pe_op op_add (pv 3) pe_int) (fun _ _ => rfl)) (nomark _)))) pa_nil)) (fun _ => rfl))) pss_never pss_nil)))), fun vs Q => fn_pure (N := N_check_sizes) (fun ds d h => ?_) (fun B S ds d h D hR hN => ?_) vs H Q E0⟩), hm, F.kp, F.binds fun _ _ _ _ _ _ us hl => match us, hl with | [_, _], _ => rfl⟩
  · obtain ⟨legs, sizes, rfl, h0, h1, rfl⟩ := h; rfl
  · obtain ⟨legs, sizes, rfl, h0, h1, rfl⟩ := h; simp
  · obtain ⟨legs, sizes, rfl, h0, h1, rfl⟩ := h
    have hl1 := h0.1
    have hl2 := h0.2.1
    have hsl := szOk_len h1
    show Ss _ _ [.da ((eT (eP eQ PyData.str)) legs), .da ((eT PyData.int) sizes), .no, .no] _ _
    refine s_seq (s_skip (et_or (et_not (et_truB (ed_isi (ed_var rfl) (show kitB "tuple" "tuple" = some true by decide +kernel)))) (fun hb3 => (et_or (et_not (et_truT (ed_var rfl))) (fun hb2 => (et_not (et_truB (ed_all (ed_L (el_lcAX (xs := sizes) (ea := fun x => Itm.hard (PyData.int x)) (enc := PyData.bool) (fb := fun (x1 : Int) => (isIntD ((PyData.int x1)))) (ei_tupX (ed_var rfl)) (by first | omega | (simp; omega)) (by simp) (fun _ _ x1 hx1 => ⟨_, rfl, (eg_name (by simp)), (ed_call (ds := [(PyData.int x1)]) (ea_cons (ed_var rfl) ea_nil) ⟨(PyData.int x1), rfl, rfl⟩)⟩)))))))))) (by rw [all_id (fun _ _ => by simp [isIntD, isi_int, isi_bool])]; have := h1.1; simp; exact this : ((!true) || ((!(!(sizes).isEmpty)) || (!((((sizes).map fun (x1 : Int) => (isIntD ((PyData.int x1))))).all id)))) = false) ?_)
    refine s_seq (s_skip (et_not (et_truB (ed_all (ed_L (el_lcAX (xs := sizes) (ea := fun x => Itm.hard (PyData.int x)) (enc := PyData.bool) (fb := fun (x4 : Int) => (decide ((1 : Int) ≤ x4) && decide (x4 ≤ ((legs).length : Int)))) (ei_tupX (ed_var rfl)) (by first | omega | (simp; omega)) (by simp) (fun _ _ x4 hx4 => ⟨_, rfl, (eg_name (by simp)), (ed_chain ed_int (ed_var rfl) (fun hb5 => (ed_lenTX (ed_var rfl))))⟩)))))) (by rw [all_id (fun x hx => by have := h1.2.2 x hx; simp; omega)]; rfl : (!((((sizes).map fun (x4 : Int) => (decide ((1 : Int) ≤ x4) && decide (x4 ≤ ((legs).length : Int))))).all id)) = false) ?_)
    refine (s_skip (et_not (et_truB (ed_all (ed_L (el_lcAX (xs := (List.range ((((sizes).length : Int) - (1 : Int))).toNat)) (ea := fun (i : Nat) => Itm.hard (PyData.int (i : Int))) (enc := PyData.bool) (fb := fun (x6 : Nat) => (decide ((ixG sizes (x6 : Int)) < (ixG sizes ((x6 : Int) + (1 : Int)))))) (ei_rng (ed_I0 (ed_lenTX (ed_var rfl)) ed_int) (by omega)) (by first | omega | (simp; omega)) (by simp) (fun _ _ x6 hx6 => ⟨_, rfl, (eg_name (by simp)), (ed_B0 (ed_ixTX (f := PyData.int) (l := sizes) (ed_var rfl) (ed_var rfl) (by first | exact inb (by have := List.mem_range.mp (by assumption); omega))) (ed_ixTX (f := PyData.int) (l := sizes) (ed_var rfl) (ed_I0 (ed_var rfl) ed_int) (by first | exact inb (by have := List.mem_range.mp (by assumption); omega))))⟩)))))) (by rw [all_id (fun x hx => by have hq := List.mem_range.mp hx; exact decide_eq_true (asc_ix h1.2.1 (ixG_some (i := (x : Int)) (by omega)) (ixG_some (i := (x : Int) + 1) (by omega)) (by omega)))]; rfl : (!(((((List.range ((((sizes).length : Int) - (1 : Int))).toNat)).map fun (x6 : Nat) => (decide ((ixG sizes (x6 : Int)) < (ixG sizes ((x6 : Int) + (1 : Int))))))).all id)) = false) ?_)
    exact hN rfl _ _

/-! ### check_stake -/
abbrev s_check_stake : Stmt := topS 24
abbrev N_check_stake : List Str := ["stake"]
theorem sc_check_stake : FnScope N_check_stake ["stake"] (defScope s_check_stake) := ⟨rfl, rfl, rfl, by decide +kernel, rfl, by decide +kernel, by decide +kernel⟩
def R_check_stake : List PyData → PyData → Prop := fun ds d => ∃ (stake : Int), ds = [(PyData.int stake)] ∧ (1 ≤ stake ∧ stake ≤ 1000) ∧ d = PyData.none
set_option maxHeartbeats 4000000 in
theorem ok_check_stake {P : Program} {w : World} {K : PySem.W.Frag} {mg : Str → Option Value} {base : Heap} (B : Gb K mg) (F : Fd K mg "check_stake" s_check_stake) (C_is_integer : Cl P w K mg base 1 "is_integer" ["value"] (SpP K R_is_integer)) : Cl P w K mg base 2 "check_stake" ["stake"] (SpP K R_check_stake) := by
  have BG := B
  obtain ⟨f, fd, F, hm⟩ := F.ex
  refine ⟨f, fd, fnG_of (k := 1) F sc_check_stake (spP_len fun ds d h => ?_) (fun cdv A outer s H hr hgd => ⟨_, (pss_one (ps_if (PW.pt (pw_or (pt_not (pt_truth (pe_cl C_is_integer (hr.mono (by decide)) hgd (by rfl) (pa_cons (pv 0) pa_nil)) (fun _ => rfl))) (pw_or1 (pt_not (pt_chain op_le op_le pe_int (pv 0) (pe_glob (v := .int 1000000) rfl B.c_MAX_AMOUNT.choose_spec ⟨_, rfl⟩)))))) pss_never pss_nil)), fun vs Q => fn_pure (N := N_check_stake) (fun ds d h => ?_) (fun B S ds d h D hR hN => ?_) vs H Q E0⟩), hm, F.kp, F.binds fun _ _ _ _ _ _ us hl => match us, hl with | [_], _ => rfl⟩
  · obtain ⟨stake, rfl, h0, rfl⟩ := h; rfl
  · obtain ⟨stake, rfl, h0, rfl⟩ := h; simp
  · obtain ⟨stake, rfl, h0, rfl⟩ := h
    show Ss _ _ [.da (PyData.int stake)] _ _
    refine (s_skip (et_or (et_not (et_truB (ed_call (ds := [(PyData.int stake)]) (ea_cons (ed_var rfl) ea_nil) ⟨(PyData.int stake), rfl, rfl⟩))) (fun hb2 => (et_not (et_chain (ed_chain ed_int (ed_var rfl) (fun hb1 => ed_int)))))) (by simp [isIntD, isi_int, isi_bool]; omega : ((!(isIntD ((PyData.int stake)))) || (!(decide ((1 : Int) ≤ stake) && decide (stake ≤ (1000000 : Int))))) = false) ?_)
    exact hN rfl _ _

/-! ### factor_of -/
abbrev s_factor_of : Stmt := topS 25
abbrev N_factor_of : List Str := ["leg"]
theorem sc_factor_of : FnScope N_factor_of ["leg"] (defScope s_factor_of) := ⟨rfl, rfl, rfl, by decide +kernel, rfl, by decide +kernel, by decide +kernel⟩
def R_factor_of : List PyData → PyData → Prop := fun ds d => ∃ (leg : (Rat × Str)), ds = [((eP eQ PyData.str) leg)] ∧ d = (eQ (facF leg))
set_option maxHeartbeats 4000000 in
theorem ok_factor_of {P : Program} {w : World} {K : PySem.W.Frag} {mg : Str → Option Value} {base : Heap} (B : Gb K mg) (F : Fd K mg "factor_of" s_factor_of) : Cl P w K mg base 1 "factor_of" ["leg"] (SpP K R_factor_of) := by
  have BG := B
  obtain ⟨f, fd, F, hm⟩ := F.ex
  refine ⟨f, fd, fnG_of (k := 0) F sc_factor_of (spP_len fun ds d h => ?_) (fun cdv A outer s H hr hgd => ⟨_, (pss_one (ps_ret (pe_ifExp (pt_cmpR op_eq (pe_ix (r := rIxT K) ix_tup (pv 0) pe_int (fun _ _ => rfl)) pe_str (nomark _)) (pe_ix (r := rIxT K) ix_tup (pv 0) pe_int (fun _ _ => rfl)) (pe_ifExp (pt_cmpR op_eq (pe_ix (r := rIxT K) ix_tup (pv 0) pe_int (fun _ _ => rfl)) pe_str (nomark _)) (pe_tupF (pa_cons pe_int (pa_cons pe_int pa_nil))) (pe_tupF (pa_cons pe_int (pa_cons pe_int pa_nil))))))), fun vs Q => fn_pure (N := N_factor_of) (fun ds d h => ?_) (fun B S ds d h D hR hN => ?_) vs H Q E0⟩), hm, F.kp, F.binds fun _ _ _ _ _ _ us hl => match us, hl with | [_], _ => rfl⟩
  · obtain ⟨leg, rfl, rfl⟩ := h; rfl
  · obtain ⟨leg, rfl, rfl⟩ := h; simp
  · obtain ⟨leg, rfl, rfl⟩ := h
    show Ss _ _ [.da ((eP eQ PyData.str) leg)] _ _
    exact s_ret (ed_is (ed_ite (e := eQ) (et_test (ed_eqS (ed_ixT (ed_var rfl) ed_int rfl) ed_str)) (fun hb1 => (ed_ixT (ed_var rfl) ed_int rfl)) (fun hb1 => (ed_ite (e := eQ) (et_test (ed_eqS (ed_ixT (ed_var rfl) ed_int rfl) ed_str)) (fun hb2 => (ed_is (d1 := eQ (0 : Rat)) (ed_tup (ds := [PyData.int (0 : Int), PyData.int (1 : Int)]) (ea_cons ed_int (ea_cons ed_int ea_nil))) (by rfl))) (fun hb2 => (ed_is (d1 := eQ (1 : Rat)) (ed_tup (ds := [PyData.int (1 : Int), PyData.int (1 : Int)]) (ea_cons ed_int (ea_cons ed_int ea_nil))) (by rfl)))))) (by rfl : (eQ (if (decide ((leg).2 = (Str.ofString "won"))) = true then (leg).1 else (if (decide ((leg).2 = (Str.ofString "lost"))) = true then (0 : Rat) else (1 : Rat)))) = (eQ (facF leg)))) hR

/-! ### sums_of -/
abbrev s_sums_of : Stmt := topS 26
abbrev N_sums_of : List Str := ["factors", "found", "factor", "further", "at", "part"]
theorem sc_sums_of : FnScope N_sums_of ["factors"] (defScope s_sums_of) := ⟨rfl, rfl, rfl, by decide +kernel, rfl, by decide +kernel, by decide +kernel⟩
def R_sums_of : List PyData → PyData → Prop := fun ds d => ∃ (factors : (List Rat)), ds = [((eL eQ) factors)] ∧ ((∀ x ∈ factors, FB x) ∧ factors.length ≤ 11) ∧ d = ((eL eQ) (esF factors))
set_option maxHeartbeats 4000000 in
theorem ok_sums_of {P : Program} {w : World} {K : PySem.W.Frag} {mg : Str → Option Value} {base : Heap} (B : Gb K mg) (F : Fd K mg "sums_of" s_sums_of) (C_plus : Cl P w K mg base 3 "plus" ["first", "second"] (SpP K R_plus)) (C_times : Cl P w K mg base 3 "times" ["first", "second"] (SpP K R_times)) : Cl P w K mg base 4 "sums_of" ["factors"] (SpP K R_sums_of) := by
  have BG := B
  obtain ⟨f, fd, F, hm⟩ := F.ex
  refine ⟨f, fd, fnG_of (k := 3) F sc_sums_of (spP_len fun ds d h => ?_) (fun cdv A outer s H hr hgd => ⟨_, (pss_cons (ps_set (i := 1) sc_sums_of.nd rfl (Or.inl rfl) (pe_lst (pa_cons (pe_tupF (pa_cons pe_int (pa_cons pe_int pa_nil))) pa_nil))) (pss_cons (ps_for PassesOwn.never rfl (pi_list (pv 0)) (pg_name (i := 2) sc_sums_of.nd rfl (Or.inl rfl)) (pss_cons (ps_set (i := 3) sc_sums_of.nd rfl (Or.inl rfl) (pe_op (r := rCatG K) op_catG (pv 1) (pe_lst (pa_cons (pe_tupF (pa_cons pe_int (pa_cons pe_int pa_nil))) pa_nil)))) (pss_cons (ps_for PassesOwn.never rfl (pi_enum (by rfl) B.enumerate_ (pa_cons (pv 1) pa_nil)) (pg_tup rfl (pgs_cons (pg_name (i := 4) sc_sums_of.nd rfl (Or.inl rfl)) (pgs_cons (pg_name (i := 5) sc_sums_of.nd rfl (Or.inl rfl)) pgs_nil))) (pss_one (ps_asg (pe_cl C_plus (hr.mono (by decide)) hgd (by rfl) (pa_cons (pe_ix (r := rIxL K) ix_list (pv 3) (pe_op op_add (pv 4) pe_int) (fun _ _ => rfl)) (pa_cons (pe_cl C_times (hr.mono (by decide)) hgd (by rfl) (pa_cons (pv 5) (pa_cons (pv 2) pa_nil))) pa_nil))) (pg_sub (pv 3) (pe_op op_add (pv 4) pe_int) set_list (fun _ => rfl)) rfl))) (pss_one (ps_set (i := 1) sc_sums_of.nd rfl (Or.inl rfl) (pv 3)))))) (pss_one (ps_ret (pv 1))))), fun vs Q => fn_pure (N := N_sums_of) (fun ds d h => ?_) (fun B S ds d h D hR hN => ?_) vs H Q E0⟩), hm, F.kp, F.binds fun _ _ _ _ _ _ us hl => match us, hl with | [_], _ => rfl⟩
  · obtain ⟨factors, rfl, h0, rfl⟩ := h; rfl
  · obtain ⟨factors, rfl, h0, rfl⟩ := h; simp
  · obtain ⟨factors, rfl, h0, rfl⟩ := h
    have hF := h0.1
    have hlen := h0.2
    show Ss _ _ [.da ((eL eQ) factors), .no, .no, .no, .no, .no] _ _
    refine s_seq (s_asg (ed_L (el_lst (ds := [(1 : Rat)].map eQ) (ea_cons (ed_is (d1 := eQ (1 : Rat)) (ed_tup (ds := [PyData.int (1 : Int), PyData.int (1 : Int)]) (ea_cons ed_int (ea_cons ed_int ea_nil))) (by rfl)) ea_nil))) (s_le (ρ1 := [.da ((eL eQ) factors), .da ((eL eQ) [(1 : Rat)]), .no, .no, .no, .no]) (le_rfl rfl) ?_))
    refine s_seq (s_forX (factors) (fun x => Itm.hard (eQ x)) (ei_listX (ed_var rfl)) (fun i0 => [.da ((eL eQ) factors), .da ((eL eQ) (esF (factors.take (i0)))), .no, .no, .no, .no]) (le_same (le_da (by rfl) (le_no (le_no (le_no (le_no le_nil)))))) (fun T0 hT0 i0 x0 hx0 => ⟨_, [2], (eg_name (by simp)), ?_⟩) ?_)
    · show Ss _ _ [.da ((eL eQ) factors), .da ((eL eQ) (esF (factors.take (i0)))), .da (eQ x0), .no, .no, .no] _ _
      have htk := fun y (hy : y ∈ factors.take i0) => hF y (List.mem_of_mem_take hy)
      have hxm := hF x0 (List.mem_of_getElem? hx0)
      have hi0 := (List.getElem?_eq_some_iff.mp hx0).1
      have htl : (factors.take i0).length = i0 := by rw [List.length_take]; omega
      have hel := esF_len (factors.take i0)
      have hn0 : (esF (factors.take i0)).zipIdx.length = (esF (factors.take i0)).length := by simp
      refine s_seq (s_asgM (ds := (((esF (factors.take (i0))) ++ [(0 : Rat)])).map eQ) (el_cat (ed_var rfl) (ed_L (el_lst (ds := [(0 : Rat)].map eQ) (ea_cons (ed_is (d1 := eQ (0 : Rat)) (ed_tup (ds := [PyData.int (0 : Int), PyData.int (1 : Int)]) (ea_cons ed_int (ea_cons ed_int ea_nil))) (by rfl)) ea_nil))) (by simp; omega)) (fun p_further1 => s_le (ρ1 := [.da ((eL eQ) factors), .da ((eL eQ) (esF (factors.take (i0)))), .da (eQ x0), .mu true p_further1 (.lst (((esF (factors.take (i0))) ++ [(0 : Rat)]).map eQ)), .no, .no]) (le_rfl rfl) ?_))
      refine s_seq (s_forX (((esF (factors.take (i0)))).zipIdx) (fun p => Itm.soft [PyData.int (p.2 : Int), eQ p.1]) (ei_enumX (ed_var rfl)) (fun i1 => [.da ((eL eQ) factors), .da ((eL eQ) (esF (factors.take (i0)))), .da (eQ x0), .mu true p_further1 (.lst ((esU (esF (factors.take i0)) x0 (i1)).map eQ)), .no, .no]) (le_same (le_same (le_same (le_mu (congrArg MO.lst (by rfl)) (le_no (le_no le_nil)))))) (fun T1 hT1 i1 x1 hx1 => ⟨_, [4, 5], (eg_soft (egs_cons (eg_name (by simp)) (egs_cons (eg_name (by simp)) egs_nil))), ?_⟩) ?_)
      · show Ss _ _ [.da ((eL eQ) factors), .da ((eL eQ) (esF (factors.take (i0)))), .da (eQ x0), .mu true p_further1 (.lst ((esU (esF (factors.take i0)) x0 (i1)).map eQ)), .da (PyData.int ((x1).2 : Int)), .da (eQ (x1).1)] _ _
        have hxp := en_get hx1
        have hu := esU_len (esF (factors.take i0)) x0 i1
        have hb1 := esU_eb htk hxm (j := i1) (by omega) (k := x1.2 + 1) (by omega)
        have hb2 := eF_eb htk x1.2
        have hq1 : Qk 320 (ixG (esU (esF (factors.take i0)) x0 i1) ((x1.2 : Int) + 1)) := (EB_qk (by omega) hb1).mono (by decide)
        have hq2 : Qk 320 x1.1 := by rw [sums_item hx1]; exact (EB_qk (by omega) hb2).mono (by decide)
        have hq3 : Qk 30 x0 := hxm.qk (by decide) (by decide)
        refine (s_setLX (f := eQ) (xs := (esU (esF (factors.take i0)) x0 (i1))) (x := (((ixG (esU (esF (factors.take i0)) x0 (i1)) (((x1).2 : Int) + (1 : Int)))) + ((((x1).1) * (x0))))) (ed_call (ds := [(eQ (ixG (esU (esF (factors.take i0)) x0 (i1)) (((x1).2 : Int) + (1 : Int)))), (eQ (((x1).1) * (x0)))]) (ea_cons (ed_ixMX (f := eQ) (xs := (esU (esF (factors.take i0)) x0 (i1))) (ed_I0 (ed_var rfl) ed_int) rfl ⟨_, _, rfl⟩ (by exact inb (by omega))) (ea_cons (ed_call (ds := [(eQ (x1).1), (eQ x0)]) (ea_cons (ed_var rfl) (ea_cons (ed_var rfl) ea_nil)) ⟨(x1).1, x0, rfl, by exact hq2.qb (by decide), by exact hq3.qb (by decide), rfl⟩) ea_nil)) ⟨(ixG (esU (esF (factors.take i0)) x0 (i1)) (((x1).2 : Int) + (1 : Int))), (((x1).1) * (x0)), rfl, by exact hq1.qb (by decide), by exact (Qk_mul hq2 hq3).qb (by decide), rfl⟩) (ed_I0 (ed_var rfl) ed_int) ⟨_, _, rfl⟩ rfl (by omega) (s_le (ρ1 := [.da ((eL eQ) factors), .da ((eL eQ) (esF (factors.take (i0)))), .da (eQ x0), .mu true p_further1 (.lst (((esU (esF (factors.take i0)) x0 (i1)).set ((((x1).2 : Int) + (1 : Int))).toNat (((ixG (esU (esF (factors.take i0)) x0 (i1)) (((x1).2 : Int) + (1 : Int)))) + ((((x1).1) * (x0))))).map eQ)), .da (PyData.int ((x1).2 : Int)), .da (eQ (x1).1)]) (le_same (le_same (le_same (le_mu (congrArg MO.lst (by simp)) (le_same (le_same le_nil)))))) ?_))
        exact s_end (le_same (le_same (le_same (le_mu (congrArg MO.lst (by exact congrArg (List.map eQ) (sums_in hx1))) (le_no (le_no le_nil))))))
      refine s_le (ρ1 := [.da ((eL eQ) factors), .da ((eL eQ) (esF (factors.take (i0)))), .da (eQ x0), .da ((eL eQ) (esU (esF (factors.take i0)) x0 ((((esF (factors.take (i0)))).zipIdx).length))), .no, .no]) (le_same (le_same (le_same (le_frz (le_no (le_no le_nil)))))) ?_
      refine (s_asg (ed_var rfl) (s_le (ρ1 := [.da ((eL eQ) factors), .da ((eL eQ) (esU (esF (factors.take i0)) x0 ((((esF (factors.take (i0)))).zipIdx).length))), .da (eQ x0), .da ((eL eQ) (esU (esF (factors.take i0)) x0 ((((esF (factors.take (i0)))).zipIdx).length))), .no, .no]) (le_rfl rfl) ?_))
      exact s_end (le_same (le_da (by exact congrArg (eL eQ) (sums_step hx0 hn0)) (le_no (le_no (le_no (le_no le_nil))))))
    exact s_ret (ed_is (ed_var rfl) (by rw [List.take_length] : ((eL eQ) (esF (factors.take ((factors).length)))) = ((eL eQ) (esF factors)))) hR

/-! ### product_of -/
abbrev s_product_of : Stmt := topS 15
abbrev N_product_of : List Str := ["rows", "total", "row"]
theorem sc_product_of : FnScope N_product_of ["rows"] (defScope s_product_of) := ⟨rfl, rfl, rfl, by decide +kernel, rfl, by decide +kernel, by decide +kernel⟩
def R_product_of : List PyData → PyData → Prop := fun ds d => ∃ (rows : (Bool × List Rat)), ds = [((eS eQ) rows)] ∧ ((∀ x ∈ rows.2, FB x) ∧ rows.2.length ≤ 11) ∧ d = (eQ (prodQ rows.2))
set_option maxHeartbeats 4000000 in
theorem ok_product_of {P : Program} {w : World} {K : PySem.W.Frag} {mg : Str → Option Value} {base : Heap} (B : Gb K mg) (F : Fd K mg "product_of" s_product_of) (C_times : Cl P w K mg base 3 "times" ["first", "second"] (SpP K R_times)) : Cl P w K mg base 4 "product_of" ["rows"] (SpP K R_product_of) := by
  have BG := B
  obtain ⟨f, fd, F, hm⟩ := F.ex
  refine ⟨f, fd, fnG_of (k := 3) F sc_product_of (spP_len fun ds d h => ?_) (fun cdv A outer s H hr hgd => ⟨_, (pss_cons (ps_set (i := 1) sc_product_of.nd rfl (Or.inl rfl) (pe_tupF (pa_cons pe_int (pa_cons pe_int pa_nil)))) (pss_cons (ps_for PassesOwn.never rfl (pi_seq (pv 0)) (pg_name (i := 2) sc_product_of.nd rfl (Or.inl rfl)) (pss_one (ps_set (i := 1) sc_product_of.nd rfl (Or.inl rfl) (pe_cl C_times (hr.mono (by decide)) hgd (by rfl) (pa_cons (pv 1) (pa_cons (pv 2) pa_nil)))))) (pss_one (ps_ret (pv 1))))), fun vs Q => fn_pure (N := N_product_of) (fun ds d h => ?_) (fun B S ds d h D hR hN => ?_) vs H Q E0⟩), hm, F.kp, F.binds fun _ _ _ _ _ _ us hl => match us, hl with | [_], _ => rfl⟩
  · obtain ⟨rows, rfl, h0, rfl⟩ := h; rfl
  · obtain ⟨rows, rfl, h0, rfl⟩ := h; simp
  · obtain ⟨rows, rfl, h0, rfl⟩ := h
    show Ss _ _ [.da ((eS eQ) rows), .no, .no] _ _
    refine s_seq (s_asg (ed_is (d1 := eQ (1 : Rat)) (ed_tup (ds := [PyData.int (1 : Int), PyData.int (1 : Int)]) (ea_cons ed_int (ea_cons ed_int ea_nil))) (by rfl)) (s_le (ρ1 := [.da ((eS eQ) rows), .da (eQ (1 : Rat)), .no]) (le_rfl rfl) ?_))
    refine s_seq (s_forX ((rows).2) (fun x => Itm.hard (eQ x)) (ei_seqX (ed_var rfl)) (fun i0 => [.da ((eS eQ) rows), .da (eQ (prodQ (rows.2.take (i0)))), .no]) (le_same (le_da (by rfl) (le_no le_nil))) (fun T0 hT0 i0 x0 hx0 => ⟨_, [2], (eg_name (by simp)), ?_⟩) ?_)
    · show Ss _ _ [.da ((eS eQ) rows), .da (eQ (prodQ (rows.2.take (i0)))), .da (eQ x0)] _ _
      have hq := prodQ_qk (l := rows.2.take i0) (fun y hy => h0.1 y (List.mem_of_mem_take hy)) (by rw [List.length_take]; omega)
      have hx : Qk 30 x0 := (h0.1 x0 (List.mem_of_getElem? hx0)).qk (by decide) (by decide)
      refine (s_asg (ed_call (ds := [(eQ (prodQ (rows.2.take (i0)))), (eQ x0)]) (ea_cons (ed_var rfl) (ea_cons (ed_var rfl) ea_nil)) ⟨(prodQ (rows.2.take (i0))), x0, rfl, by exact hq.qb (by decide), by exact hx.qb (by decide), rfl⟩) (s_le (ρ1 := [.da ((eS eQ) rows), .da (eQ (((prodQ (rows.2.take (i0)))) * (x0))), .da (eQ x0)]) (le_rfl rfl) ?_))
      exact s_end (le_same (le_da (by exact congrArg eQ (prod_step hx0)) (le_no le_nil)))
    exact s_ret (ed_is (ed_var rfl) (by rw [List.take_length] : (eQ (prodQ (rows.2.take (((rows).2).length)))) = (eQ (prodQ rows.2)))) hR

/-! ### count_lines -/
abbrev s_count_lines : Stmt := topS 27
abbrev N_count_lines : List Str := ["legs", "sizes", "size"]
theorem sc_count_lines : FnScope N_count_lines ["legs", "sizes"] (defScope s_count_lines) := ⟨rfl, rfl, rfl, by decide +kernel, rfl, by decide +kernel, by decide +kernel⟩
def R_count_lines : List PyData → PyData → Prop := fun ds d => ∃ (legs : (List (Rat × Str))) (sizes : (List Int)), ds = [((eT (eP eQ PyData.str)) legs), ((eT PyData.int) sizes)] ∧ (LegsOk 10 legs) ∧ (SzOk legs.length sizes) ∧ d = (PyData.int ((sizes.map fun s => chI ((legs.length : Nat) : Int) s).sum))
set_option maxHeartbeats 4000000 in
theorem ok_count_lines {P : Program} {w : World} {K : PySem.W.Frag} {mg : Str → Option Value} {base : Heap} (B : Gb K mg) (F : Fd K mg "count_lines" s_count_lines) (C_check_legs : Cl P w K mg base 4 "check_legs" ["legs"] (SpP K R_check_legs)) (C_check_sizes : Cl P w K mg base 2 "check_sizes" ["legs", "sizes"] (SpP K R_check_sizes)) (C_choose : Cl P w K mg base 1 "choose" ["many", "few"] (SpP K R_choose)) : Cl P w K mg base 5 "count_lines" ["legs", "sizes"] (SpP K R_count_lines) := by
  have BG := B
  obtain ⟨f, fd, F, hm⟩ := F.ex
  refine ⟨f, fd, fnG_of (k := 4) F sc_count_lines (spP_len fun ds d h => ?_) (fun cdv A outer s H hr hgd => ⟨_, (pss_cons (ps_expr (pe_cl C_check_legs (hr.mono (by decide)) hgd (by rfl) (pa_cons (pv 0) pa_nil))) (pss_cons (ps_expr (pe_cl C_check_sizes (hr.mono (by decide)) hgd (by rfl) (pa_cons (pv 0) (pa_cons (pv 1) pa_nil)))) (pss_one (ps_ret (pe_callB (r := rSumT K) (cr_sumT rfl) (by rfl) B.sum_ (by decide +kernel) (pa_cons (pe_lc (own := [("size", 2)]) (g := _) (tt := tYes) rfl sc_count_lines.nd (pi_tup (pv 1)) (blkOk_by (N := N_count_lines) (sc := defScope s_count_lines) (by decide +kernel)) (fun _ _ _ _ _ => (pg_name (i := 2) sc_count_lines.nd rfl (by first | exact Or.inl rfl | exact Or.inr rfl))) (fun _ _ _ _ _ => pts_nil) (fun _ _ _ _ _ => (pe_cl C_choose (hr.mono (by decide)) hgd (by rfl) (pa_cons (pe_callB (r := rLenS K) call_len_seq (by rfl) B.len_ PySem.boot_len (pa_cons (pv 0) pa_nil)) (pa_cons (pv 2) pa_nil))))) pa_nil)))))), fun vs Q => fn_pure (N := N_count_lines) (fun ds d h => ?_) (fun B S ds d h D hR hN => ?_) vs H Q E0⟩), hm, F.kp, F.binds fun _ _ _ _ _ _ us hl => match us, hl with | [_, _], _ => rfl⟩
  · obtain ⟨legs, sizes, rfl, h0, h1, rfl⟩ := h; rfl
  · obtain ⟨legs, sizes, rfl, h0, h1, rfl⟩ := h; simp
  · obtain ⟨legs, sizes, rfl, h0, h1, rfl⟩ := h
    have hl1 := h0.1
    have hl2 := h0.2.1
    have hsl := szOk_len h1
    show Ss _ _ [.da ((eT (eP eQ PyData.str)) legs), .da ((eT PyData.int) sizes), .no] _ _
    refine s_seq (s_drop (ed_call (ds := [((eT (eP eQ PyData.str)) legs)]) (ea_cons (ed_var rfl) ea_nil) ⟨legs, rfl, by assumption, rfl⟩) ?_)
    refine s_seq (s_drop (ed_call (ds := [((eT (eP eQ PyData.str)) legs), ((eT PyData.int) sizes)]) (ea_cons (ed_var rfl) (ea_cons (ed_var rfl) ea_nil)) ⟨legs, sizes, rfl, by assumption, by assumption, rfl⟩) ?_)
    exact s_ret (ed_is (ed_sumL (ed_L (el_lcAX (xs := sizes) (ea := fun x => Itm.hard (PyData.int x)) (enc := PyData.int) (fb := fun (x1 : Int) => (chI (((legs).length : Int)) (x1))) (ei_tupX (ed_var rfl)) (by omega) (by simp) (fun _ _ x1 hx1 => ⟨_, rfl, (eg_name (by simp)), (ed_call (ds := [(PyData.int ((legs).length : Int)), (PyData.int x1)]) (ea_cons (ed_lenTX (ed_var rfl)) (ea_cons (ed_var rfl) ea_nil)) ⟨((legs).length : Int), x1, rfl, by omega, rfl⟩)⟩)))) (by rfl : (PyData.int ((((sizes).map fun (x1 : Int) => (chI (((legs).length : Int)) (x1)))).sum)) = (PyData.int ((sizes.map fun s => chI ((legs.length : Nat) : Int) s).sum)))) hR

/-! ### cost -/
abbrev s_cost : Stmt := topS 28
abbrev N_cost : List Str := ["legs", "sizes", "stake", "size"]
theorem sc_cost : FnScope N_cost ["legs", "sizes", "stake"] (defScope s_cost) := ⟨rfl, rfl, rfl, by decide +kernel, rfl, by decide +kernel, by decide +kernel⟩
def R_cost : List PyData → PyData → Prop := fun ds d => ∃ (legs : (List (Rat × Str))) (sizes : (List Int)) (stake : Int), ds = [((eT (eP eQ PyData.str)) legs), ((eT PyData.int) sizes), (PyData.int stake)] ∧ (LegsOk 10 legs) ∧ (SzOk legs.length sizes) ∧ (1 ≤ stake ∧ stake ≤ 1000) ∧ d = (PyData.int (stake * (sizes.map fun s => chI ((legs.length : Nat) : Int) s).sum))
set_option maxHeartbeats 4000000 in
theorem ok_cost {P : Program} {w : World} {K : PySem.W.Frag} {mg : Str → Option Value} {base : Heap} (B : Gb K mg) (F : Fd K mg "cost" s_cost) (C_check_legs : Cl P w K mg base 4 "check_legs" ["legs"] (SpP K R_check_legs)) (C_check_sizes : Cl P w K mg base 2 "check_sizes" ["legs", "sizes"] (SpP K R_check_sizes)) (C_check_stake : Cl P w K mg base 2 "check_stake" ["stake"] (SpP K R_check_stake)) (C_choose : Cl P w K mg base 1 "choose" ["many", "few"] (SpP K R_choose)) : Cl P w K mg base 5 "cost" ["legs", "sizes", "stake"] (SpP K R_cost) := by
  have BG := B
  obtain ⟨f, fd, F, hm⟩ := F.ex
  refine ⟨f, fd, fnG_of (k := 4) F sc_cost (spP_len fun ds d h => ?_) (fun cdv A outer s H hr hgd => ⟨_, (pss_cons (ps_expr (pe_cl C_check_legs (hr.mono (by decide)) hgd (by rfl) (pa_cons (pv 0) pa_nil))) (pss_cons (ps_expr (pe_cl C_check_sizes (hr.mono (by decide)) hgd (by rfl) (pa_cons (pv 0) (pa_cons (pv 1) pa_nil)))) (pss_cons (ps_expr (pe_cl C_check_stake (hr.mono (by decide)) hgd (by rfl) (pa_cons (pv 2) pa_nil))) (pss_one (ps_ret (pe_op op_mulG (pv 2) (pe_callB (r := rSumT K) (cr_sumT rfl) (by rfl) B.sum_ (by decide +kernel) (pa_cons (pe_lc (own := [("size", 3)]) (g := _) (tt := tYes) rfl sc_cost.nd (pi_tup (pv 1)) (blkOk_by (N := N_cost) (sc := defScope s_cost) (by decide +kernel)) (fun _ _ _ _ _ => (pg_name (i := 3) sc_cost.nd rfl (by first | exact Or.inl rfl | exact Or.inr rfl))) (fun _ _ _ _ _ => pts_nil) (fun _ _ _ _ _ => (pe_cl C_choose (hr.mono (by decide)) hgd (by rfl) (pa_cons (pe_callB (r := rLenS K) call_len_seq (by rfl) B.len_ PySem.boot_len (pa_cons (pv 0) pa_nil)) (pa_cons (pv 3) pa_nil))))) pa_nil)))))))), fun vs Q => fn_pure (N := N_cost) (fun ds d h => ?_) (fun B S ds d h D hR hN => ?_) vs H Q E0⟩), hm, F.kp, F.binds fun _ _ _ _ _ _ us hl => match us, hl with | [_, _, _], _ => rfl⟩
  · obtain ⟨legs, sizes, stake, rfl, h0, h1, h2, rfl⟩ := h; rfl
  · obtain ⟨legs, sizes, stake, rfl, h0, h1, h2, rfl⟩ := h; simp
  · obtain ⟨legs, sizes, stake, rfl, h0, h1, h2, rfl⟩ := h
    have hl1 := h0.1
    have hl2 := h0.2.1
    have hsl := szOk_len h1
    show Ss _ _ [.da ((eT (eP eQ PyData.str)) legs), .da ((eT PyData.int) sizes), .da (PyData.int stake), .no] _ _
    refine s_seq (s_drop (ed_call (ds := [((eT (eP eQ PyData.str)) legs)]) (ea_cons (ed_var rfl) ea_nil) ⟨legs, rfl, by assumption, rfl⟩) ?_)
    refine s_seq (s_drop (ed_call (ds := [((eT (eP eQ PyData.str)) legs), ((eT PyData.int) sizes)]) (ea_cons (ed_var rfl) (ea_cons (ed_var rfl) ea_nil)) ⟨legs, sizes, rfl, by assumption, by assumption, rfl⟩) ?_)
    refine s_seq (s_drop (ed_call (ds := [(PyData.int stake)]) (ea_cons (ed_var rfl) ea_nil) ⟨stake, rfl, by assumption, rfl⟩) ?_)
    exact s_ret (ed_is (ed_I (ed_var rfl) (ed_sumL (ed_L (el_lcAX (xs := sizes) (ea := fun x => Itm.hard (PyData.int x)) (enc := PyData.int) (fb := fun (x1 : Int) => (chI (((legs).length : Int)) (x1))) (ei_tupX (ed_var rfl)) (by omega) (by simp) (fun _ _ x1 hx1 => ⟨_, rfl, (eg_name (by simp)), (ed_call (ds := [(PyData.int ((legs).length : Int)), (PyData.int x1)]) (ea_cons (ed_lenTX (ed_var rfl)) (ea_cons (ed_var rfl) ea_nil)) ⟨((legs).length : Int), x1, rfl, by have := h1.2.2 _ (by assumption); omega, rfl⟩)⟩)))) (by exact mul_l (by omega) (by omega))) (by rfl : (PyData.int (stake * (((sizes).map fun (x1 : Int) => (chI (((legs).length : Int)) (x1)))).sum)) = (PyData.int (stake * (sizes.map fun s => chI ((legs.length : Nat) : Int) s).sum)))) hR

/-! ### returned -/
abbrev s_returned : Stmt := topS 29
abbrev N_returned : List Str := ["legs", "sizes", "stake", "rows", "leg", "total", "size"]
theorem sc_returned : FnScope N_returned ["legs", "sizes", "stake"] (defScope s_returned) := ⟨rfl, rfl, rfl, by decide +kernel, rfl, by decide +kernel, by decide +kernel⟩
def R_returned : List PyData → PyData → Prop := fun ds d => ∃ (legs : (List (Rat × Str))) (sizes : (List Int)) (stake : Int), ds = [((eT (eP eQ PyData.str)) legs), ((eT PyData.int) sizes), (PyData.int stake)] ∧ (LegsOk 10 legs) ∧ (SzOk legs.length sizes) ∧ (1 ≤ stake ∧ stake ≤ 1000) ∧ d = (eQ (sumE (legs.map facF) sizes * ((stake : Int) : Rat)))
set_option maxHeartbeats 4000000 in
theorem ok_returned {P : Program} {w : World} {K : PySem.W.Frag} {mg : Str → Option Value} {base : Heap} (B : Gb K mg) (F : Fd K mg "returned" s_returned) (C_check_legs : Cl P w K mg base 4 "check_legs" ["legs"] (SpP K R_check_legs)) (C_check_sizes : Cl P w K mg base 2 "check_sizes" ["legs", "sizes"] (SpP K R_check_sizes)) (C_check_stake : Cl P w K mg base 2 "check_stake" ["stake"] (SpP K R_check_stake)) (C_factor_of : Cl P w K mg base 1 "factor_of" ["leg"] (SpP K R_factor_of)) (C_plus : Cl P w K mg base 3 "plus" ["first", "second"] (SpP K R_plus)) (C_sums_of : Cl P w K mg base 4 "sums_of" ["factors"] (SpP K R_sums_of)) (C_times : Cl P w K mg base 3 "times" ["first", "second"] (SpP K R_times)) : Cl P w K mg base 5 "returned" ["legs", "sizes", "stake"] (SpP K R_returned) := by
  have BG := B
  obtain ⟨f, fd, F, hm⟩ := F.ex
  refine ⟨f, fd, fnG_of (k := 4) F sc_returned (spP_len fun ds d h => ?_) (fun cdv A outer s H hr hgd => ⟨_, (pss_cons (ps_expr (pe_cl C_check_legs (hr.mono (by decide)) hgd (by rfl) (pa_cons (pv 0) pa_nil))) (pss_cons (ps_expr (pe_cl C_check_sizes (hr.mono (by decide)) hgd (by rfl) (pa_cons (pv 0) (pa_cons (pv 1) pa_nil)))) (pss_cons (ps_expr (pe_cl C_check_stake (hr.mono (by decide)) hgd (by rfl) (pa_cons (pv 2) pa_nil))) (pss_cons (ps_set (i := 3) sc_returned.nd rfl (Or.inl rfl) (pe_cl C_sums_of (hr.mono (by decide)) hgd (by rfl) (pa_cons (pe_lc (own := [("leg", 4)]) (g := _) (tt := tYes) rfl sc_returned.nd (pi_tup (pv 0)) (blkOk_by (N := N_returned) (sc := defScope s_returned) (by decide +kernel)) (fun _ _ _ _ _ => (pg_name (i := 4) sc_returned.nd rfl (by first | exact Or.inl rfl | exact Or.inr rfl))) (fun _ _ _ _ _ => pts_nil) (fun _ _ _ _ _ => (pe_cl C_factor_of (hr.mono (by decide)) hgd (by rfl) (pa_cons (pv 4) pa_nil)))) pa_nil))) (pss_cons (ps_set (i := 5) sc_returned.nd rfl (Or.inl rfl) (pe_tupF (pa_cons pe_int (pa_cons pe_int pa_nil)))) (pss_cons (ps_for PassesOwn.never rfl (pi_tup (pv 1)) (pg_name (i := 6) sc_returned.nd rfl (Or.inl rfl)) (pss_one (ps_set (i := 5) sc_returned.nd rfl (Or.inl rfl) (pe_cl C_plus (hr.mono (by decide)) hgd (by rfl) (pa_cons (pv 5) (pa_cons (pe_ix (r := rIxL K) ix_list (pv 3) (pv 6) (fun _ _ => rfl)) pa_nil)))))) (pss_one (ps_ret (pe_cl C_times (hr.mono (by decide)) hgd (by rfl) (pa_cons (pv 5) (pa_cons (pe_tupF (pa_cons (pv 2) (pa_cons pe_int pa_nil))) pa_nil))))))))))), fun vs Q => fn_pure (N := N_returned) (fun ds d h => ?_) (fun B S ds d h D hR hN => ?_) vs H Q E0⟩), hm, F.kp, F.binds fun _ _ _ _ _ _ us hl => match us, hl with | [_, _, _], _ => rfl⟩
  · obtain ⟨legs, sizes, stake, rfl, h0, h1, h2, rfl⟩ := h; rfl
  · obtain ⟨legs, sizes, stake, rfl, h0, h1, h2, rfl⟩ := h; simp
  · obtain ⟨legs, sizes, stake, rfl, h0, h1, h2, rfl⟩ := h
    have hl1 := h0.1
    have hl2 := h0.2.1
    have hsl := szOk_len h1
    have hfb := legs_fb h0
    have hml : (legs.map facF).length = legs.length := List.length_map ..
    have hes := esF_len (legs.map facF)
    show Ss _ _ [.da ((eT (eP eQ PyData.str)) legs), .da ((eT PyData.int) sizes), .da (PyData.int stake), .no, .no, .no, .no] _ _
    refine s_seq (s_drop (ed_call (ds := [((eT (eP eQ PyData.str)) legs)]) (ea_cons (ed_var rfl) ea_nil) ⟨legs, rfl, by assumption, rfl⟩) ?_)
    refine s_seq (s_drop (ed_call (ds := [((eT (eP eQ PyData.str)) legs), ((eT PyData.int) sizes)]) (ea_cons (ed_var rfl) (ea_cons (ed_var rfl) ea_nil)) ⟨legs, sizes, rfl, by assumption, by assumption, rfl⟩) ?_)
    refine s_seq (s_drop (ed_call (ds := [(PyData.int stake)]) (ea_cons (ed_var rfl) ea_nil) ⟨stake, rfl, by assumption, rfl⟩) ?_)
    refine s_seq (s_asg (ed_call (ds := [((eL eQ) ((legs).map facF))]) (ea_cons (ed_is (ed_L (el_lcAX (xs := legs) (ea := fun x => Itm.hard ((eP eQ PyData.str) x)) (enc := eQ) (fb := fun (x1 : (Rat × Str)) => (facF (x1))) (ei_tupX (ed_var rfl)) (by omega) (by simp) (fun _ _ x1 hx1 => ⟨_, rfl, (eg_name (by simp)), (ed_call (ds := [((eP eQ PyData.str) x1)]) (ea_cons (ed_var rfl) ea_nil) ⟨x1, rfl, rfl⟩)⟩))) (by rfl : _ = ((eL eQ) ((legs).map facF)))) ea_nil) ⟨((legs).map facF), rfl, by exact ⟨hfb, by omega⟩, rfl⟩) (s_le (ρ1 := [.da ((eT (eP eQ PyData.str)) legs), .da ((eT PyData.int) sizes), .da (PyData.int stake), .da ((eL eQ) (esF (((legs).map facF)))), .no, .no, .no]) (le_rfl rfl) ?_))
    refine s_seq (s_asg (ed_is (d1 := eQ (0 : Rat)) (ed_tup (ds := [PyData.int (0 : Int), PyData.int (1 : Int)]) (ea_cons ed_int (ea_cons ed_int ea_nil))) (by rfl)) (s_le (ρ1 := [.da ((eT (eP eQ PyData.str)) legs), .da ((eT PyData.int) sizes), .da (PyData.int stake), .da ((eL eQ) (esF (((legs).map facF)))), .no, .da (eQ (0 : Rat)), .no]) (le_rfl rfl) ?_))
    refine s_seq (s_forX (sizes) (fun x => Itm.hard (PyData.int x)) (ei_tupX (ed_var rfl)) (fun i0 => [.da ((eT (eP eQ PyData.str)) legs), .da ((eT PyData.int) sizes), .da (PyData.int stake), .da ((eL eQ) (esF (((legs).map facF)))), .no, .da (eQ (sumE (legs.map facF) (sizes.take (i0)))), .no]) (le_same (le_same (le_same (le_same (le_no (le_da (by rfl) (le_no le_nil))))))) (fun T0 hT0 i0 x0 hx0 => ⟨_, [6], (eg_name (by simp)), ?_⟩) ?_)
    · show Ss _ _ [.da ((eT (eP eQ PyData.str)) legs), .da ((eT PyData.int) sizes), .da (PyData.int stake), .da ((eL eQ) (esF (((legs).map facF)))), .no, .da (eQ (sumE (legs.map facF) (sizes.take (i0)))), .da (PyData.int x0)] _ _
      have hxs := h1.2.2 _ (List.mem_of_getElem? hx0)
      have hq := sumE_qk hfb (by omega) (sizes := sizes.take i0) (by rw [List.length_take]; omega)
      have he := EB_qk (by omega) (eF_eb hfb x0.toNat)
      refine (s_asg (ed_call (ds := [(eQ (sumE (legs.map facF) (sizes.take (i0)))), (eQ (ixG (esF (((legs).map facF))) x0))]) (ea_cons (ed_var rfl) (ea_cons (ed_ixLX (f := eQ) (l := (esF (((legs).map facF)))) (ed_var rfl) (ed_var rfl) (by exact inb (by omega))) ea_nil)) ⟨(sumE (legs.map facF) (sizes.take (i0))), (ixG (esF (((legs).map facF))) x0), rfl, by exact hq.qb (by decide), by rw [esF_atI (by omega)]; exact he.qb (by decide), rfl⟩) (s_le (ρ1 := [.da ((eT (eP eQ PyData.str)) legs), .da ((eT PyData.int) sizes), .da (PyData.int stake), .da ((eL eQ) (esF (((legs).map facF)))), .no, .da (eQ (((sumE (legs.map facF) (sizes.take (i0)))) + ((ixG (esF (((legs).map facF))) x0)))), .da (PyData.int x0)]) (le_rfl rfl) ?_))
      exact s_end (le_same (le_same (le_same (le_same (le_no (le_da (by rw [esF_atI (by omega)]; exact congrArg eQ (take_sum (f := fun s : Int => eF (legs.map facF) s.toNat) hx0)) (le_no le_nil)))))))
    exact s_ret (ed_is (ed_call (ds := [(eQ (sumE (legs.map facF) (sizes.take ((sizes).length)))), (eQ ((stake : Int) : Rat))]) (ea_cons (ed_var rfl) (ea_cons (ed_is (d1 := eQ ((stake : Int) : Rat)) (ed_tup (ds := [PyData.int stake, PyData.int (1 : Int)]) (ea_cons (ed_var rfl) (ea_cons ed_int ea_nil))) rfl) ea_nil)) ⟨(sumE (legs.map facF) (sizes.take ((sizes).length))), ((stake : Int) : Rat), rfl, by rw [List.take_length]; exact (sumE_qk hfb (by omega) (by omega)).qb (by decide), by exact (int_qk (k := 64) (by omega)).qb (by decide), rfl⟩) (by rw [List.take_length] : (eQ (((sumE (legs.map facF) (sizes.take ((sizes).length)))) * (((stake : Int) : Rat)))) = (eQ (sumE (legs.map facF) sizes * ((stake : Int) : Rat))))) hR

/-! ### rows_of -/
abbrev s_rows_of : Stmt := topS 30
abbrev N_rows_of : List Str := ["many", "size", "found", "step", "longer", "row", "other"]
theorem sc_rows_of : FnScope N_rows_of ["many", "size"] (defScope s_rows_of) := ⟨rfl, rfl, rfl, by decide +kernel, rfl, by decide +kernel, by decide +kernel⟩
def R_rows_of : List PyData → PyData → Prop := fun ds d => ∃ (many : Int) (size : Int), ds = [(PyData.int many), (PyData.int size)] ∧ (0 ≤ many ∧ many ≤ 10) ∧ (0 ≤ size ∧ size ≤ 10) ∧ d = ((eL (eT PyData.int)) (rowsOf many (size).toNat))
set_option maxHeartbeats 4000000 in
theorem ok_rows_of {P : Program} {w : World} {K : PySem.W.Frag} {mg : Str → Option Value} {base : Heap} (B : Gb K mg) (F : Fd K mg "rows_of" s_rows_of) : Cl P w K mg base 1 "rows_of" ["many", "size"] (SpP K R_rows_of) := by
  have BG := B
  obtain ⟨f, fd, F, hm⟩ := F.ex
  refine ⟨f, fd, fnG_of (k := 0) F sc_rows_of (spP_len fun ds d h => ?_) (fun cdv A outer s H hr hgd => ⟨_, (pss_cons (ps_set (i := 2) sc_rows_of.nd rfl (Or.inl rfl) (pe_lst (pa_cons (pe_tupF pa_nil) pa_nil))) (pss_cons (ps_for PassesOwn.never rfl (pi_range1 (by rfl) B.range_ (pa_cons (pv 1) pa_nil)) (pg_name (i := 3) sc_rows_of.nd rfl (Or.inl rfl)) (pss_cons (ps_set (i := 4) sc_rows_of.nd rfl (Or.inl rfl) (pe_lst pa_nil)) (pss_cons (ps_for PassesOwn.never rfl (pi_list (pv 2)) (pg_name (i := 5) sc_rows_of.nd rfl (Or.inr rfl)) (pss_one (ps_expr (pe_bm PySem.F.plainAttrs_list PySem.F.slot_list_extend PySem.F.type_list_extend mt_extend (pv 4) (pa_cons (pe_lc (own := [("other", 6)]) (g := _) (tt := tYes) rfl sc_rows_of.nd (pi_range2 (by rfl) B.range_ (pa_cons (pe_ifExp (pt_truth (pv 5) (fun _ => rfl)) (pe_op op_add (pe_ix (r := rIxT K) ix_tup (pv 5) (pe_un un_neg pe_int) (fun _ _ => rfl)) pe_int) pe_int) (pa_cons (pv 0) pa_nil))) (blkOk_by (N := N_rows_of) (sc := defScope s_rows_of) (by decide +kernel)) (fun _ _ _ _ _ => (pg_name (i := 6) sc_rows_of.nd rfl (by first | exact Or.inl rfl | exact Or.inr rfl))) (fun _ _ _ _ _ => pts_nil) (fun _ _ _ _ _ => (pe_op (r := rCatF K) op_catF (pv 5) (pe_tupF (pa_cons (pv 6) pa_nil))))) pa_nil))))) (pss_one (ps_set (i := 2) sc_rows_of.nd rfl (Or.inl rfl) (pv 4)))))) (pss_one (ps_ret (pv 2))))), fun vs Q => fn_pure (N := N_rows_of) (fun ds d h => ?_) (fun B S ds d h D hR hN => ?_) vs H Q E0⟩), hm, F.kp, F.binds fun _ _ _ _ _ _ us hl => match us, hl with | [_, _], _ => rfl⟩
  · obtain ⟨many, size, rfl, h0, h1, rfl⟩ := h; rfl
  · obtain ⟨many, size, rfl, h0, h1, rfl⟩ := h; simp
  · obtain ⟨many, size, rfl, h0, h1, rfl⟩ := h
    show Ss _ _ [.da (PyData.int many), .da (PyData.int size), .no, .no, .no, .no, .no] _ _
    refine s_seq (s_asg (ed_L (el_lst (ds := [[]].map (eT PyData.int)) (ea_cons (ed_tup (ds := []) ea_nil) ea_nil))) (s_le (ρ1 := [.da (PyData.int many), .da (PyData.int size), .da ((eL (eT PyData.int)) [[]]), .no, .no, .no, .no]) (le_rfl rfl) ?_))
    refine s_seq (s_forX ((List.range (size).toNat)) (fun (i : Nat) => Itm.hard (PyData.int (i : Int))) (ei_rng (ed_var rfl) (by omega)) (fun i0 => [.da (PyData.int many), .da (PyData.int size), .da ((eL (eT PyData.int)) (rowsOf many (i0))), .no, .no, .no, .no]) (le_same (le_same (le_da (by rfl) (le_no (le_no (le_no (le_no le_nil))))))) (fun T0 hT0 i0 x0 hx0 => ⟨_, [3], (eg_name (by simp)), ?_⟩) ?_)
    · show Ss _ _ [.da (PyData.int many), .da (PyData.int size), .da ((eL (eT PyData.int)) (rowsOf many (i0))), .da (PyData.int (x0 : Int)), .no, .no, .no] _ _
      have hlt0 := (rng_get hx0).2
      refine s_le (ρ1 := [.da (PyData.int many), .da (PyData.int size), .da ((eL (eT PyData.int)) (rowsOf many (i0))), .da (PyData.int (i0 : Int)), .no, .no, .no]) (le_rfl (by rw [(rng_get hx0).1])) ?_
      have hrl := rows_le h0 i0
      refine s_seq (s_asgM (ds := ([]).map (eT PyData.int)) (el_lst (ds := [].map (eT PyData.int)) ea_nil) (fun p_longer1 => s_le (ρ1 := [.da (PyData.int many), .da (PyData.int size), .da ((eL (eT PyData.int)) (rowsOf many (i0))), .da (PyData.int (i0 : Int)), .mu true p_longer1 (.lst ([].map (eT PyData.int))), .no, .no]) (le_rfl rfl) ?_))
      refine s_seq (s_forX ((rowsOf many (i0))) (fun x => Itm.hard ((eT PyData.int) x)) (ei_listX (ed_var rfl)) (fun i1 => [.da (PyData.int many), .da (PyData.int size), .da ((eL (eT PyData.int)) (rowsOf many (i0))), .da (PyData.int (i0 : Int)), .mu true p_longer1 (.lst ((((rowsOf many i0).take (i1)).flatMap (extR many)).map (eT PyData.int))), .no, .no]) (le_same (le_same (le_same (le_same (le_mu (congrArg MO.lst (by rfl)) (le_no (le_no le_nil))))))) (fun T1 hT1 i1 x1 hx1 => ⟨_, [5], (eg_name (by simp)), ?_⟩) ?_)
      · show Ss _ _ [.da (PyData.int many), .da (PyData.int size), .da ((eL (eT PyData.int)) (rowsOf many (i0))), .da (PyData.int (i0 : Int)), .mu true p_longer1 (.lst ((((rowsOf many i0).take (i1)).flatMap (extR many)).map (eT PyData.int))), .da ((eT PyData.int) x1), .no] _ _
        have hr := rows_in i0 x1 (List.mem_of_getElem? hx1)
        have hrl1 := hr.1
        have hft := flat_len_take (extR many) (rowsOf many i0) (i1 + 1)
        rw [← flat_take hx1, List.length_append] at hft
        have hnext := rows_le h0 (i0 + 1)
        change ((rowsOf many i0).flatMap (extR many)).length ≤ 1024 at hnext
        have hn5 := hr.2.2.2.2.1
        have hn6 := hr.2.2.2.2.2 h0.1
        have hnd : nxR x1 = (if (!x1.isEmpty) = true then ixG x1 (-(1 : Int)) + 1 else 0) := rfl
        refine (s_extend (el_lcAX (xs := (rngX (if (!(x1).isEmpty) = true then ((ixG x1 (-1)) + (1 : Int)) else (0 : Int)) many)) (ea := fun (i : Int) => Itm.hard (PyData.int i)) (enc := (fun l : List Int => PyData.tuple (l.map PyData.int))) (fb := fun (x3 : Int) => (x1 ++ [x3])) (ei_rngX2 (ed_ite (e := PyData.int) (et_truT (ed_var rfl)) (fun hb2 => (ed_I0 (ed_ixTX (f := PyData.int) (l := x1) (ed_var rfl) (ed_neg ed_int) (by exact last_in (by assumption))) ed_int)) (fun hb2 => ed_int)) (ed_var rfl) (by rw [← hnd]; omega)) (by rw [← hnd]; unfold rngX; rw [List.length_map, List.length_range]; omega) (by simp) (fun _ _ x3 hx3 => ⟨_, rfl, (eg_name (by simp)), (ed_catT (f := PyData.int) (l := x1) (m := [x3]) (ed_var rfl) (ed_tup (ds := [(PyData.int x3)]) (ea_cons (ed_var rfl) ea_nil)) (by simp; omega))⟩)) ⟨_, _, rfl⟩ rfl (by rw [List.length_map, List.length_map]; change _ + (extR many x1).length ≤ _; omega) (s_le (ρ1 := [.da (PyData.int many), .da (PyData.int size), .da ((eL (eT PyData.int)) (rowsOf many (i0))), .da (PyData.int (i0 : Int)), .mu true p_longer1 (.lst (((((rowsOf many i0).take (i1)).flatMap (extR many)) ++ (((rngX (if (!(x1).isEmpty) = true then ((ixG x1 (-1)) + (1 : Int)) else (0 : Int)) many)).map fun (x3 : Int) => (x1 ++ [x3]))).map (eT PyData.int))), .da ((eT PyData.int) x1), .no]) (le_same (le_same (le_same (le_same (le_mu (congrArg MO.lst (by simp)) (le_same (le_same le_nil))))))) ?_))
        exact s_end (le_same (le_same (le_same (le_same (le_mu (congrArg MO.lst (by exact congrArg (List.map (eT PyData.int)) (flat_take hx1))) (le_no (le_no le_nil)))))))
      refine s_le (ρ1 := [.da (PyData.int many), .da (PyData.int size), .da ((eL (eT PyData.int)) (rowsOf many (i0))), .da (PyData.int (i0 : Int)), .da ((eL (eT PyData.int)) (((rowsOf many i0).take (((rowsOf many (i0))).length)).flatMap (extR many))), .no, .no]) (le_same (le_same (le_same (le_same (le_frz (le_no (le_no le_nil))))))) ?_
      refine (s_asg (ed_var rfl) (s_le (ρ1 := [.da (PyData.int many), .da (PyData.int size), .da ((eL (eT PyData.int)) (((rowsOf many i0).take (((rowsOf many (i0))).length)).flatMap (extR many))), .da (PyData.int (i0 : Int)), .da ((eL (eT PyData.int)) (((rowsOf many i0).take (((rowsOf many (i0))).length)).flatMap (extR many))), .no, .no]) (le_rfl rfl) ?_))
      exact s_end (le_same (le_same (le_da (by rw [List.take_length]; rfl) (le_no (le_no (le_no (le_no le_nil)))))))
    exact s_ret (ed_is (ed_var rfl) (by rw [List.length_range] : ((eL (eT PyData.int)) (rowsOf many (((List.range (size).toNat)).length))) = ((eL (eT PyData.int)) (rowsOf many (size).toNat)))) hR

/-! ### lines -/
abbrev s_lines : Stmt := topS 31
abbrev N_lines : List Str := ["legs", "sizes", "stake", "found", "size", "row", "part", "number"]
theorem sc_lines : FnScope N_lines ["legs", "sizes", "stake"] (defScope s_lines) := ⟨rfl, rfl, rfl, by decide +kernel, rfl, by decide +kernel, by decide +kernel⟩
def R_lines : List PyData → PyData → Prop := fun ds d => ∃ (legs : (List (Rat × Str))) (sizes : (List Int)) (stake : Int), ds = [((eT (eP eQ PyData.str)) legs), ((eT PyData.int) sizes), (PyData.int stake)] ∧ (LegsOk 10 legs) ∧ (SzOk legs.length sizes) ∧ (1 ≤ stake ∧ stake ≤ 1000) ∧ d = ((eT (eP (eT PyData.int) PyData.int)) (linesOf legs sizes stake))
set_option maxHeartbeats 4000000 in
theorem ok_lines {P : Program} {w : World} {K : PySem.W.Frag} {mg : Str → Option Value} {base : Heap} (B : Gb K mg) (F : Fd K mg "lines" s_lines) (C_check_legs : Cl P w K mg base 4 "check_legs" ["legs"] (SpP K R_check_legs)) (C_check_sizes : Cl P w K mg base 2 "check_sizes" ["legs", "sizes"] (SpP K R_check_sizes)) (C_check_stake : Cl P w K mg base 2 "check_stake" ["stake"] (SpP K R_check_stake)) (C_factor_of : Cl P w K mg base 1 "factor_of" ["leg"] (SpP K R_factor_of)) (C_product_of : Cl P w K mg base 4 "product_of" ["rows"] (SpP K R_product_of)) (C_rows_of : Cl P w K mg base 1 "rows_of" ["many", "size"] (SpP K R_rows_of)) : Cl P w K mg base 5 "lines" ["legs", "sizes", "stake"] (SpP K R_lines) := by
  have BG := B
  obtain ⟨f, fd, F, hm⟩ := F.ex
  refine ⟨f, fd, fnG_of (k := 4) F sc_lines (spP_len fun ds d h => ?_) (fun cdv A outer s H hr hgd => ⟨_, (pss_cons (ps_expr (pe_cl C_check_legs (hr.mono (by decide)) hgd (by rfl) (pa_cons (pv 0) pa_nil))) (pss_cons (ps_expr (pe_cl C_check_sizes (hr.mono (by decide)) hgd (by rfl) (pa_cons (pv 0) (pa_cons (pv 1) pa_nil)))) (pss_cons (ps_expr (pe_cl C_check_stake (hr.mono (by decide)) hgd (by rfl) (pa_cons (pv 2) pa_nil))) (pss_cons (ps_set (i := 3) sc_lines.nd rfl (Or.inl rfl) (pe_lst pa_nil)) (pss_cons (ps_for PassesOwn.never rfl (pi_tup (pv 1)) (pg_name (i := 4) sc_lines.nd rfl (Or.inl rfl)) (pss_one (ps_for PassesOwn.never rfl (pi_list (pe_cl C_rows_of (hr.mono (by decide)) hgd (by rfl) (pa_cons (pe_callB (r := rLenS K) call_len_seq (by rfl) B.len_ PySem.boot_len (pa_cons (pv 0) pa_nil)) (pa_cons (pv 4) pa_nil)))) (pg_name (i := 5) sc_lines.nd rfl (Or.inl rfl)) (pss_cons (ps_set (i := 6) sc_lines.nd rfl (Or.inl rfl) (pe_cl C_product_of (hr.mono (by decide)) hgd (by rfl) (pa_cons (pe_lc (own := [("number", 7)]) (g := _) (tt := tYes) rfl sc_lines.nd (pi_tup (pv 5)) (blkOk_by (N := N_lines) (sc := defScope s_lines) (by decide +kernel)) (fun _ _ _ _ _ => (pg_name (i := 7) sc_lines.nd rfl (by first | exact Or.inl rfl | exact Or.inr rfl))) (fun _ _ _ _ _ => pts_nil) (fun _ _ _ _ _ => (pe_cl C_factor_of (hr.mono (by decide)) hgd (by rfl) (pa_cons (pe_ix (r := rIxT K) ix_tup (pv 0) (pv 7) (fun _ _ => rfl)) pa_nil)))) pa_nil))) (pss_one (ps_expr (pe_bm PySem.F.plainAttrs_list PySem.F.slot_list_append PySem.F.type_list_append mt_append (pv 3) (pa_cons (pe_tupF (pa_cons (pv 5) (pa_cons (pe_op op_fdivG (pe_op op_mulG (pv 2) (pe_ix (r := rIxT K) ix_tup (pv 6) pe_int (fun _ _ => rfl))) (pe_ix (r := rIxT K) ix_tup (pv 6) pe_int (fun _ _ => rfl))) pa_nil))) pa_nil)))))))) (pss_one (ps_ret (pe_callTy (r := rTupOf K) call_tupleF (by rfl) B.tuple_ PyProof.Rows.boot_tuple (pa_cons (pv 3) pa_nil))))))))), fun vs Q => fn_pure (N := N_lines) (fun ds d h => ?_) (fun B S ds d h D hR hN => ?_) vs H Q E0⟩), hm, F.kp, F.binds fun _ _ _ _ _ _ us hl => match us, hl with | [_, _, _], _ => rfl⟩
  · obtain ⟨legs, sizes, stake, rfl, h0, h1, h2, rfl⟩ := h; rfl
  · obtain ⟨legs, sizes, stake, rfl, h0, h1, h2, rfl⟩ := h; simp
  · obtain ⟨legs, sizes, stake, rfl, h0, h1, h2, rfl⟩ := h
    have hl1 := h0.1
    have hl2 := h0.2.1
    have hsl := szOk_len h1
    show Ss _ _ [.da ((eT (eP eQ PyData.str)) legs), .da ((eT PyData.int) sizes), .da (PyData.int stake), .no, .no, .no, .no, .no] _ _
    refine s_seq (s_drop (ed_call (ds := [((eT (eP eQ PyData.str)) legs)]) (ea_cons (ed_var rfl) ea_nil) ⟨legs, rfl, by assumption, rfl⟩) ?_)
    refine s_seq (s_drop (ed_call (ds := [((eT (eP eQ PyData.str)) legs), ((eT PyData.int) sizes)]) (ea_cons (ed_var rfl) (ea_cons (ed_var rfl) ea_nil)) ⟨legs, sizes, rfl, by assumption, by assumption, rfl⟩) ?_)
    refine s_seq (s_drop (ed_call (ds := [(PyData.int stake)]) (ea_cons (ed_var rfl) ea_nil) ⟨stake, rfl, by assumption, rfl⟩) ?_)
    refine s_seq (s_asgM (ds := ([]).map (eP (eT PyData.int) PyData.int)) (el_lst (ds := [].map (eP (eT PyData.int) PyData.int)) ea_nil) (fun p_found1 => s_le (ρ1 := [.da ((eT (eP eQ PyData.str)) legs), .da ((eT PyData.int) sizes), .da (PyData.int stake), .mu true p_found1 (.lst ([].map (eP (eT PyData.int) PyData.int))), .no, .no, .no, .no]) (le_rfl rfl) ?_))
    refine s_seq (s_forX (sizes) (fun x => Itm.hard (PyData.int x)) (ei_tupX (ed_var rfl)) (fun i0 => [.da ((eT (eP eQ PyData.str)) legs), .da ((eT PyData.int) sizes), .da (PyData.int stake), .mu true p_found1 (.lst (((sizes.take (i0)).flatMap (lnS legs stake)).map (eP (eT PyData.int) PyData.int))), .no, .no, .no, .no]) (le_same (le_same (le_same (le_mu (congrArg MO.lst (by rfl)) (le_no (le_no (le_no (le_no le_nil)))))))) (fun T0 hT0 i0 x0 hx0 => ⟨_, [4], (eg_name (by simp)), ?_⟩) ?_)
    · show Ss _ _ [.da ((eT (eP eQ PyData.str)) legs), .da ((eT PyData.int) sizes), .da (PyData.int stake), .mu true p_found1 (.lst (((sizes.take (i0)).flatMap (lnS legs stake)).map (eP (eT PyData.int) PyData.int))), .da (PyData.int x0), .no, .no, .no] _ _
      have hxs := h1.2.2 _ (List.mem_of_getElem? hx0)
      have hln := lines_len h0 stake (sizes.take i0)
      have htk : (sizes.take i0).length ≤ sizes.length := by rw [List.length_take]; omega
      have hrl := rows_le (n := (legs.length : Int)) (by omega) x0.toNat
      refine (s_forX ((rowsOf (((legs).length : Int)) ((x0)).toNat)) (fun x => Itm.hard ((eT PyData.int) x)) (ei_listX (ed_call (ds := [(PyData.int ((legs).length : Int)), (PyData.int x0)]) (ea_cons (ed_lenTX (ed_var rfl)) (ea_cons (ed_var rfl) ea_nil)) ⟨((legs).length : Int), x0, rfl, by omega, by omega, rfl⟩)) (fun i1 => [.da ((eT (eP eQ PyData.str)) legs), .da ((eT PyData.int) sizes), .da (PyData.int stake), .mu true p_found1 (.lst (((sizes.take i0).flatMap (lnS legs stake) ++ ((rowsOf legs.length x0.toNat).take (i1)).map fun row => (row, lineV legs stake row)).map (eP (eT PyData.int) PyData.int))), .da (PyData.int x0), .no, .no, .no]) (le_same (le_same (le_same (le_mu (congrArg MO.lst (by simp)) (le_same (le_no (le_no (le_no le_nil)))))))) (fun T1 hT1 i1 x1 hx1 => ⟨_, [5], (eg_name (by simp)), ?_⟩) ?_)
      · show Ss _ _ [.da ((eT (eP eQ PyData.str)) legs), .da ((eT PyData.int) sizes), .da (PyData.int stake), .mu true p_found1 (.lst (((sizes.take i0).flatMap (lnS legs stake) ++ ((rowsOf legs.length x0.toNat).take (i1)).map fun row => (row, lineV legs stake row)).map (eP (eT PyData.int) PyData.int))), .da (PyData.int x0), .da ((eT PyData.int) x1), .no, .no] _ _
        have hr := rows_in x0.toNat x1 (List.mem_of_getElem? hx1)
        have hrn := rowIn_len hr (by omega)
        have hqp := lineP_qk h0 hr
        have hdp := (lineP legs x1).den_pos
        have hql := hqp.2
        have hi1 := (List.getElem?_eq_some_iff.mp hx1).1
        refine s_seq (s_asg (ed_call (ds := [((eS eQ) (true, ((x1).map fun (x2 : Int) => (facF ((ixG legs x2))))))]) (ea_cons (ed_is (ed_L (el_lcAX (xs := x1) (ea := fun x => Itm.hard (PyData.int x)) (enc := eQ) (fb := fun (x2 : Int) => (facF ((ixG legs x2)))) (ei_tupX (ed_var rfl)) (by omega) (by simp) (fun _ _ x2 hx2 => ⟨_, rfl, (eg_name (by simp)), (ed_call (ds := [((eP eQ PyData.str) (ixG legs x2))]) (ea_cons (ed_ixTX (f := (eP eQ PyData.str)) (l := legs) (ed_var rfl) (ed_var rfl) (by exact inb (hr.2.2.1 _ (by assumption)))) ea_nil) ⟨(ixG legs x2), rfl, rfl⟩)⟩))) (rfl : _ = ((eS eQ) (true, ((x1).map fun (x2 : Int) => (facF ((ixG legs x2)))))))) ea_nil) ⟨(true, ((x1).map fun (x2 : Int) => (facF ((ixG legs x2))))), rfl, by exact ⟨line_fb h0 hr, by show (x1.map _).length ≤ 11; rw [List.length_map]; omega⟩, rfl⟩) (s_le (ρ1 := [.da ((eT (eP eQ PyData.str)) legs), .da ((eT PyData.int) sizes), .da (PyData.int stake), .mu true p_found1 (.lst (((sizes.take i0).flatMap (lnS legs stake) ++ ((rowsOf legs.length x0.toNat).take (i1)).map fun row => (row, lineV legs stake row)).map (eP (eT PyData.int) PyData.int))), .da (PyData.int x0), .da ((eT PyData.int) x1), .da (eQ (prodQ ((true, ((x1).map fun (x2 : Int) => (facF ((ixG legs x2)))))).2)), .no]) (le_rfl rfl) ?_))
        refine (s_append (ed_tup (ds := [((eT PyData.int) x1), (PyData.int ((stake * ((prodQ ((true, ((x1).map fun (x2 : Int) => (facF ((ixG legs x2)))))).2)).num) / (((prodQ ((true, ((x1).map fun (x2 : Int) => (facF ((ixG legs x2)))))).2)).den : Int)))]) (ea_cons (ed_var rfl) (ea_cons (ed_I (ed_I (ed_var rfl) (ed_ixT (ed_var rfl) ed_int rfl) (by exact mul_l (by omega) (by omega))) (ed_ixT (ed_var rfl) ed_int rfl) (by exact div_b (by show (0 : Int) < ((lineP legs x1).den : Int); omega) (Nat.lt_of_le_of_lt (show ((lineP legs x1).den : Int).natAbs ≤ 2 ^ 300 by omega) (Nat.pow_lt_pow_right (by decide) (by decide))))) ea_nil))) ⟨_, _, rfl⟩ rfl (by simp only [List.length_append, List.length_map, List.length_take]; omega) (s_le (ρ1 := [.da ((eT (eP eQ PyData.str)) legs), .da ((eT PyData.int) sizes), .da (PyData.int stake), .mu true p_found1 (.lst ((((sizes.take i0).flatMap (lnS legs stake) ++ ((rowsOf legs.length x0.toNat).take (i1)).map fun row => (row, lineV legs stake row)) ++ [(x1, ((stake * ((prodQ ((true, ((x1).map fun (x2 : Int) => (facF ((ixG legs x2)))))).2)).num) / (((prodQ ((true, ((x1).map fun (x2 : Int) => (facF ((ixG legs x2)))))).2)).den : Int)))]).map (eP (eT PyData.int) PyData.int))), .da (PyData.int x0), .da ((eT PyData.int) x1), .da (eQ (prodQ ((true, ((x1).map fun (x2 : Int) => (facF ((ixG legs x2)))))).2)), .no]) (le_same (le_same (le_same (le_mu (congrArg MO.lst (by simp)) (le_same (le_same (le_same (le_same le_nil)))))))) ?_))
        exact s_end (le_same (le_same (le_same (le_mu (congrArg MO.lst (by exact congrArg (List.map (eP (eT PyData.int) PyData.int)) (lines_in hx1))) (le_same (le_no (le_no (le_no le_nil))))))))
      exact s_end (le_same (le_same (le_same (le_mu (congrArg MO.lst (by rw [List.take_length]; exact congrArg (List.map (eP (eT PyData.int) PyData.int)) (flat_take hx0))) (le_no (le_no (le_no (le_no le_nil))))))))
    refine s_le (ρ1 := [.da ((eT (eP eQ PyData.str)) legs), .da ((eT PyData.int) sizes), .da (PyData.int stake), .da ((eL (eP (eT PyData.int) PyData.int)) ((sizes.take ((sizes).length)).flatMap (lnS legs stake))), .no, .no, .no, .no]) (le_same (le_same (le_same (le_frz (le_no (le_no (le_no (le_no le_nil)))))))) ?_
    exact s_ret (ed_is (ed_tupleL (ed_var rfl)) (by rw [List.take_length]; rfl : ((eT (eP (eT PyData.int) PyData.int)) ((sizes.take ((sizes).length)).flatMap (lnS legs stake))) = ((eT (eP (eT PyData.int) PyData.int)) (linesOf legs sizes stake)))) hR

/-! ### rounding -/
abbrev s_rounding : Stmt := topS 32
abbrev N_rounding : List Str := ["legs", "sizes", "stake", "told", "paid", "row"]
theorem sc_rounding : FnScope N_rounding ["legs", "sizes", "stake"] (defScope s_rounding) := ⟨rfl, rfl, rfl, by decide +kernel, rfl, by decide +kernel, by decide +kernel⟩
def R_rounding : List PyData → PyData → Prop := fun ds d => ∃ (legs : (List (Rat × Str))) (sizes : (List Int)) (stake : Int), ds = [((eT (eP eQ PyData.str)) legs), ((eT PyData.int) sizes), (PyData.int stake)] ∧ (LegsOk 10 legs) ∧ (SzOk legs.length sizes) ∧ (1 ≤ stake ∧ stake ≤ 1000) ∧ d = (eQ (sumE (legs.map facF) sizes * ((stake : Int) : Rat) + ((-paidS (linesOf legs sizes stake) : Int) : Rat)))
set_option maxHeartbeats 4000000 in
theorem ok_rounding {P : Program} {w : World} {K : PySem.W.Frag} {mg : Str → Option Value} {base : Heap} (B : Gb K mg) (F : Fd K mg "rounding" s_rounding) (C_lines : Cl P w K mg base 5 "lines" ["legs", "sizes", "stake"] (SpP K R_lines)) (C_plus : Cl P w K mg base 3 "plus" ["first", "second"] (SpP K R_plus)) (C_returned : Cl P w K mg base 5 "returned" ["legs", "sizes", "stake"] (SpP K R_returned)) : Cl P w K mg base 6 "rounding" ["legs", "sizes", "stake"] (SpP K R_rounding) := by
  have BG := B
  obtain ⟨f, fd, F, hm⟩ := F.ex
  refine ⟨f, fd, fnG_of (k := 5) F sc_rounding (spP_len fun ds d h => ?_) (fun cdv A outer s H hr hgd => ⟨_, (pss_cons (ps_set (i := 3) sc_rounding.nd rfl (Or.inl rfl) (pe_cl C_returned (hr.mono (by decide)) hgd (by rfl) (pa_cons (pv 0) (pa_cons (pv 1) (pa_cons (pv 2) pa_nil))))) (pss_cons (ps_set (i := 4) sc_rounding.nd rfl (Or.inl rfl) (pe_callB (r := rSumT K) (cr_sumT rfl) (by rfl) B.sum_ (by decide +kernel) (pa_cons (pe_lc (own := [("row", 5)]) (g := _) (tt := tYes) rfl sc_rounding.nd (pi_tup (pe_cl C_lines (hr.mono (by decide)) hgd (by rfl) (pa_cons (pv 0) (pa_cons (pv 1) (pa_cons (pv 2) pa_nil))))) (blkOk_by (N := N_rounding) (sc := defScope s_rounding) (by decide +kernel)) (fun _ _ _ _ _ => (pg_name (i := 5) sc_rounding.nd rfl (by first | exact Or.inl rfl | exact Or.inr rfl))) (fun _ _ _ _ _ => pts_nil) (fun _ _ _ _ _ => (pe_ix (r := rIxT K) ix_tup (pv 5) pe_int (fun _ _ => rfl)))) pa_nil))) (pss_one (ps_ret (pe_cl C_plus (hr.mono (by decide)) hgd (by rfl) (pa_cons (pv 3) (pa_cons (pe_tupF (pa_cons (pe_un un_neg (pv 4)) (pa_cons pe_int pa_nil))) pa_nil))))))), fun vs Q => fn_pure (N := N_rounding) (fun ds d h => ?_) (fun B S ds d h D hR hN => ?_) vs H Q E0⟩), hm, F.kp, F.binds fun _ _ _ _ _ _ us hl => match us, hl with | [_, _, _], _ => rfl⟩
  · obtain ⟨legs, sizes, stake, rfl, h0, h1, h2, rfl⟩ := h; rfl
  · obtain ⟨legs, sizes, stake, rfl, h0, h1, h2, rfl⟩ := h; simp
  · obtain ⟨legs, sizes, stake, rfl, h0, h1, h2, rfl⟩ := h
    have hl1 := h0.1
    have hl2 := h0.2.1
    have hsl := szOk_len h1
    have hpl := paid_le h0 h1 h2
    have hll := lines_len h0 stake sizes
    show Ss _ _ [.da ((eT (eP eQ PyData.str)) legs), .da ((eT PyData.int) sizes), .da (PyData.int stake), .no, .no, .no] _ _
    refine s_seq (s_asg (ed_call (ds := [((eT (eP eQ PyData.str)) legs), ((eT PyData.int) sizes), (PyData.int stake)]) (ea_cons (ed_var rfl) (ea_cons (ed_var rfl) (ea_cons (ed_var rfl) ea_nil))) ⟨legs, sizes, stake, rfl, by assumption, by assumption, by assumption, rfl⟩) (s_le (ρ1 := [.da ((eT (eP eQ PyData.str)) legs), .da ((eT PyData.int) sizes), .da (PyData.int stake), .da (eQ (sumE ((legs).map facF) (sizes) * (((stake) : Int) : Rat))), .no, .no]) (le_rfl rfl) ?_))
    refine s_seq (s_asg (ed_sumL (ed_L (el_lcAX (xs := (linesOf (legs) (sizes) (stake))) (ea := fun x => Itm.hard ((eP (eT PyData.int) PyData.int) x)) (enc := PyData.int) (fb := fun (x1 : ((List Int) × Int)) => (x1).2) (ei_tupX (ed_call (ds := [((eT (eP eQ PyData.str)) legs), ((eT PyData.int) sizes), (PyData.int stake)]) (ea_cons (ed_var rfl) (ea_cons (ed_var rfl) (ea_cons (ed_var rfl) ea_nil))) ⟨legs, sizes, stake, rfl, by assumption, by assumption, by assumption, rfl⟩)) (by show (sizes.flatMap (lnS legs stake)).length ≤ _; omega) (by simp) (fun _ _ x1 hx1 => ⟨_, rfl, (eg_name (by simp)), (ed_ixT (ed_var rfl) ed_int rfl)⟩)))) (s_le (ρ1 := [.da ((eT (eP eQ PyData.str)) legs), .da ((eT PyData.int) sizes), .da (PyData.int stake), .da (eQ (sumE ((legs).map facF) (sizes) * (((stake) : Int) : Rat))), .da (PyData.int (((((linesOf (legs) (sizes) (stake))).map fun (x1 : ((List Int) × Int)) => (x1).2)).sum)), .no]) (le_rfl rfl) ?_))
    exact s_ret (ed_is (ed_call (ds := [(eQ (sumE ((legs).map facF) (sizes) * (((stake) : Int) : Rat))), (eQ ((-paidS (linesOf legs sizes stake) : Int) : Rat))]) (ea_cons (ed_var rfl) (ea_cons (ed_is (ed_tup (ds := [(PyData.int (-((((linesOf (legs) (sizes) (stake))).map fun (x1 : ((List Int) × Int)) => (x1).2)).sum)), (PyData.int (1 : Int))]) (ea_cons (ed_neg (ed_var rfl)) (ea_cons ed_int ea_nil))) (by rfl : _ = (eQ ((-paidS (linesOf legs sizes stake) : Int) : Rat)))) ea_nil)) ⟨(sumE ((legs).map facF) (sizes) * (((stake) : Int) : Rat)), ((-paidS (linesOf legs sizes stake) : Int) : Rat), rfl, by exact (ret_qk h0 h1 h2).qb (by decide), by exact (int_qk (k := 330) (by rw [Int.natAbs_neg]; exact hpl)).qb (by decide), rfl⟩) (by rfl : (eQ (((sumE ((legs).map facF) (sizes) * (((stake) : Int) : Rat))) + (((-paidS (linesOf legs sizes stake) : Int) : Rat)))) = (eQ (sumE (legs.map facF) sizes * ((stake : Int) : Rat) + ((-paidS (linesOf legs sizes stake) : Int) : Rat))))) hR

/-! ### mean_return -/
abbrev s_mean_return : Stmt := topS 35
abbrev N_mean_return : List Str := ["legs", "sizes", "stake", "chances", "chance", "rows", "leg", "total", "size"]
theorem sc_mean_return : FnScope N_mean_return ["legs", "sizes", "stake", "chances"] (defScope s_mean_return) := ⟨rfl, rfl, rfl, by decide +kernel, rfl, by decide +kernel, by decide +kernel⟩
def R_mean_return : List PyData → PyData → Prop := fun ds d => ∃ (legs : (List (Rat × Str))) (sizes : (List Int)) (stake : Int) (chances : (List Rat)), ds = [((eT (eP eQ PyData.str)) legs), ((eT PyData.int) sizes), (PyData.int stake), ((eT eQ) chances)] ∧ (LegsOk 10 legs) ∧ (SzOk legs.length sizes) ∧ (1 ≤ stake ∧ stake ≤ 1000) ∧ (ChsOk legs.length chances) ∧ d = (eQ (sumE (meanF legs chances) sizes * ((stake : Int) : Rat)))
set_option maxHeartbeats 4000000 in
theorem ok_mean_return {P : Program} {w : World} {K : PySem.W.Frag} {mg : Str → Option Value} {base : Heap} (B : Gb K mg) (F : Fd K mg "mean_return" s_mean_return) (C_check_legs : Cl P w K mg base 4 "check_legs" ["legs"] (SpP K R_check_legs)) (C_check_sizes : Cl P w K mg base 2 "check_sizes" ["legs", "sizes"] (SpP K R_check_sizes)) (C_check_stake : Cl P w K mg base 2 "check_stake" ["stake"] (SpP K R_check_stake)) (C_is_quotient : Cl P w K mg base 2 "is_quotient" ["value"] (SpP K R_is_quotient)) (C_plus : Cl P w K mg base 3 "plus" ["first", "second"] (SpP K R_plus)) (C_sums_of : Cl P w K mg base 4 "sums_of" ["factors"] (SpP K R_sums_of)) (C_times : Cl P w K mg base 3 "times" ["first", "second"] (SpP K R_times)) : Cl P w K mg base 5 "mean_return" ["legs", "sizes", "stake", "chances"] (SpP K R_mean_return) := by
  have BG := B
  obtain ⟨f, fd, F, hm⟩ := F.ex
  refine ⟨f, fd, fnG_of (k := 4) F sc_mean_return (spP_len fun ds d h => ?_) (fun cdv A outer s H hr hgd => ⟨_, (pss_cons (ps_expr (pe_cl C_check_legs (hr.mono (by decide)) hgd (by rfl) (pa_cons (pv 0) pa_nil))) (pss_cons (ps_expr (pe_cl C_check_sizes (hr.mono (by decide)) hgd (by rfl) (pa_cons (pv 0) (pa_cons (pv 1) pa_nil)))) (pss_cons (ps_expr (pe_cl C_check_stake (hr.mono (by decide)) hgd (by rfl) (pa_cons (pv 2) pa_nil))) (pss_cons (ps_if (PW.pt (pw_or (pt_not (pt_truth (pe_callB (r := rIsi K) call_isi (by rfl) B.isinstance_ boot_isinstance (pa_cons (pv 3) (pa_cons (pe_bltn (v := .ty "tuple") (u := .type "tuple") (by rfl) B.tuple_ PyProof.Rows.boot_tuple rfl) pa_nil))) (fun _ => rfl))) (pw_or1 (pt_cmpR (r := rNeD K) (op_neD hr.units) (pe_callB (r := rLenS K) call_len_seq (by rfl) B.len_ PySem.boot_len (pa_cons (pv 3) pa_nil)) (pe_callB (r := rLenS K) call_len_seq (by rfl) B.len_ PySem.boot_len (pa_cons (pv 0) pa_nil)) (nomark _))))) pss_never pss_nil) (pss_cons (ps_for PassesOwn.never rfl (pi_tup (pv 3)) (pg_name (i := 4) sc_mean_return.nd rfl (Or.inl rfl)) (pss_one (ps_if (PW.pt (pw_or (pt_not (pt_truth (pe_cl C_is_quotient (hr.mono (by decide)) hgd (by rfl) (pa_cons (pv 4) pa_nil)) (fun _ => rfl))) (pw_or1 (pt_not (pt_chain3 op_le op_le op_le pe_int (pe_ix (r := rIxT K) ix_tup (pv 4) pe_int (fun _ _ => rfl)) (pe_ix (r := rIxT K) ix_tup (pv 4) pe_int (fun _ _ => rfl)) (pe_glob (v := .int 1000) rfl B.c_MAX_PART.choose_spec ⟨_, rfl⟩)))))) pss_never pss_nil))) (pss_cons (ps_set (i := 5) sc_mean_return.nd rfl (Or.inl rfl) (pe_cl C_sums_of (hr.mono (by decide)) hgd (by rfl) (pa_cons (pe_lc (own := [("leg", 6), ("chance", 4)]) (g := _) (tt := tYes) rfl sc_mean_return.nd (pi_zipA (by rfl) B.zip_ (pa_cons (pv 0) (pa_cons (pv 3) pa_nil))) (blkOk_by (N := N_mean_return) (sc := defScope s_mean_return) (by decide +kernel)) (fun _ _ _ _ _ => (pg_tupB (K := K) (n := 2) rfl rfl (pgs_cons (pg_name (i := 6) sc_mean_return.nd rfl (by first | exact Or.inl rfl | exact Or.inr rfl)) (pgs_cons (pg_name (i := 4) sc_mean_return.nd rfl (by first | exact Or.inl rfl | exact Or.inr rfl)) pgs_nil)))) (fun _ _ _ _ _ => pts_nil) (fun _ _ _ _ _ => (pe_cl C_times (hr.mono (by decide)) hgd (by rfl) (pa_cons (pe_ix (r := rIxT K) ix_tup (pv 6) pe_int (fun _ _ => rfl)) (pa_cons (pv 4) pa_nil))))) pa_nil))) (pss_cons (ps_set (i := 7) sc_mean_return.nd rfl (Or.inl rfl) (pe_tupF (pa_cons pe_int (pa_cons pe_int pa_nil)))) (pss_cons (ps_for PassesOwn.never rfl (pi_tup (pv 1)) (pg_name (i := 8) sc_mean_return.nd rfl (Or.inl rfl)) (pss_one (ps_set (i := 7) sc_mean_return.nd rfl (Or.inl rfl) (pe_cl C_plus (hr.mono (by decide)) hgd (by rfl) (pa_cons (pv 7) (pa_cons (pe_ix (r := rIxL K) ix_list (pv 5) (pv 8) (fun _ _ => rfl)) pa_nil)))))) (pss_one (ps_ret (pe_cl C_times (hr.mono (by decide)) hgd (by rfl) (pa_cons (pv 7) (pa_cons (pe_tupF (pa_cons (pv 2) (pa_cons pe_int pa_nil))) pa_nil))))))))))))), fun vs Q => fn_pure (N := N_mean_return) (fun ds d h => ?_) (fun B S ds d h D hR hN => ?_) vs H Q E0⟩), hm, F.kp, F.binds fun _ _ _ _ _ _ us hl => match us, hl with | [_, _, _, _], _ => rfl⟩
  · obtain ⟨legs, sizes, stake, chances, rfl, h0, h1, h2, h3, rfl⟩ := h; rfl
  · obtain ⟨legs, sizes, stake, chances, rfl, h0, h1, h2, h3, rfl⟩ := h; simp
  · obtain ⟨legs, sizes, stake, chances, rfl, h0, h1, h2, h3, rfl⟩ := h
    have hl1 := h0.1
    have hl2 := h0.2.1
    have hsl := szOk_len h1
    have hfb := mean_fb h0 h3
    have hml := mean_len h0 h3
    have hes := esF_len (meanF legs chances)
    have hcl := h3.1
    show Ss _ _ [.da ((eT (eP eQ PyData.str)) legs), .da ((eT PyData.int) sizes), .da (PyData.int stake), .da ((eT eQ) chances), .no, .no, .no, .no, .no] _ _
    refine s_seq (s_drop (ed_call (ds := [((eT (eP eQ PyData.str)) legs)]) (ea_cons (ed_var rfl) ea_nil) ⟨legs, rfl, by assumption, rfl⟩) ?_)
    refine s_seq (s_drop (ed_call (ds := [((eT (eP eQ PyData.str)) legs), ((eT PyData.int) sizes)]) (ea_cons (ed_var rfl) (ea_cons (ed_var rfl) ea_nil)) ⟨legs, sizes, rfl, by assumption, by assumption, rfl⟩) ?_)
    refine s_seq (s_drop (ed_call (ds := [(PyData.int stake)]) (ea_cons (ed_var rfl) ea_nil) ⟨stake, rfl, by assumption, rfl⟩) ?_)
    refine s_seq (s_skip (et_or (et_not (et_truB (ed_isi (ed_var rfl) (show kitB "tuple" "tuple" = some true by decide +kernel)))) (fun hb1 => (et_test (ed_neI (ed_lenTX (ed_var rfl)) (ed_lenTX (ed_var rfl)))))) (by simp; omega : ((!true) || (!decide (((chances).length : Int) = ((legs).length : Int)))) = false) ?_)
    refine s_seq (s_forX (chances) (fun x => Itm.hard (eQ x)) (ei_tupX (ed_var rfl)) (fun i0 => [.da ((eT (eP eQ PyData.str)) legs), .da ((eT PyData.int) sizes), .da (PyData.int stake), .da ((eT eQ) chances), .no, .no, .no, .no, .no]) (le_same (le_same (le_same (le_same (le_no (le_no (le_no (le_no (le_no le_nil))))))))) (fun T0 hT0 i0 x0 hx0 => ⟨_, [4], (eg_name (by simp)), ?_⟩) ?_)
    · show Ss _ _ [.da ((eT (eP eQ PyData.str)) legs), .da ((eT PyData.int) sizes), .da (PyData.int stake), .da ((eT eQ) chances), .da (eQ x0), .no, .no, .no, .no] _ _
      obtain ⟨⟨hxa, hxb, _⟩, hxd⟩ := h3.2 x0 (List.mem_of_getElem? hx0)
      have hxp := x0.den_pos
      refine (s_skip (et_or (et_not (et_truB (ed_call (ds := [(eQ x0)]) (ea_cons (ed_var rfl) ea_nil) ⟨x0, rfl, rfl⟩))) (fun hb2 => (et_not (et_chain (ed_chain3 ed_int (ed_ixT (ed_var rfl) ed_int rfl) (ed_ixT (ed_var rfl) ed_int rfl) ed_int))))) (by rw [decide_eq_true (show (0 : Int) ≤ x0.num by omega), decide_eq_true hxb, decide_eq_true (show (x0.den : Int) ≤ 1000 by omega)]; rfl : ((!(true)) || (!(decide ((0 : Int) ≤ (x0).num) && (decide ((x0).num ≤ ((x0).den : Int)) && decide (((x0).den : Int) ≤ (1000 : Int)))))) = false) ?_)
      exact s_end (le_same (le_same (le_same (le_same (le_no (le_no (le_no (le_no (le_no le_nil)))))))))
    refine s_seq (s_asg (ed_call (ds := [((eL eQ) (meanF legs chances))]) (ea_cons (ed_is (ed_L (el_lcAX (xs := ((legs).zip chances)) (ea := fun p => Itm.soft [(eP eQ PyData.str) p.1, eQ p.2]) (enc := eQ) (fb := fun (x3 : ((Rat × Str) × Rat)) => ((((x3).1).1) * ((x3).2))) (ei_zipTX (ed_var rfl) (ed_var rfl)) (by rw [List.length_zip]; omega) (by simp) (fun _ _ x3 hx3 => ⟨_, rfl, (eg_soft (egs_cons (eg_name (by simp)) (egs_cons (eg_name (by simp)) egs_nil))), (ed_call (ds := [(eQ ((x3).1).1), (eQ (x3).2)]) (ea_cons (ed_ixT (ed_var rfl) ed_int rfl) (ea_cons (ed_var rfl) ea_nil)) ⟨((x3).1).1, (x3).2, rfl, by exact ((zip_in h0 h3 (by assumption)).1.qk (k := 30) (by decide) (by decide)).qb (by decide), by exact ((zip_in h0 h3 (by assumption)).2.qk (k := 30) (by decide) (by decide)).qb (by decide), rfl⟩)⟩))) (by rfl : _ = ((eL eQ) (meanF legs chances)))) ea_nil) ⟨(meanF legs chances), rfl, by exact ⟨hfb, by omega⟩, rfl⟩) (s_le (ρ1 := [.da ((eT (eP eQ PyData.str)) legs), .da ((eT PyData.int) sizes), .da (PyData.int stake), .da ((eT eQ) chances), .no, .da ((eL eQ) (esF ((meanF legs chances)))), .no, .no, .no]) (le_rfl rfl) ?_))
    refine s_seq (s_asg (ed_is (d1 := eQ (0 : Rat)) (ed_tup (ds := [PyData.int (0 : Int), PyData.int (1 : Int)]) (ea_cons ed_int (ea_cons ed_int ea_nil))) (by rfl)) (s_le (ρ1 := [.da ((eT (eP eQ PyData.str)) legs), .da ((eT PyData.int) sizes), .da (PyData.int stake), .da ((eT eQ) chances), .no, .da ((eL eQ) (esF ((meanF legs chances)))), .no, .da (eQ (0 : Rat)), .no]) (le_rfl rfl) ?_))
    refine s_seq (s_forX (sizes) (fun x => Itm.hard (PyData.int x)) (ei_tupX (ed_var rfl)) (fun i1 => [.da ((eT (eP eQ PyData.str)) legs), .da ((eT PyData.int) sizes), .da (PyData.int stake), .da ((eT eQ) chances), .no, .da ((eL eQ) (esF ((meanF legs chances)))), .no, .da (eQ (sumE (meanF legs chances) (sizes.take (i1)))), .no]) (le_same (le_same (le_same (le_same (le_no (le_same (le_no (le_da (by rfl) (le_no le_nil))))))))) (fun T1 hT1 i1 x1 hx1 => ⟨_, [8], (eg_name (by simp)), ?_⟩) ?_)
    · show Ss _ _ [.da ((eT (eP eQ PyData.str)) legs), .da ((eT PyData.int) sizes), .da (PyData.int stake), .da ((eT eQ) chances), .no, .da ((eL eQ) (esF ((meanF legs chances)))), .no, .da (eQ (sumE (meanF legs chances) (sizes.take (i1)))), .da (PyData.int x1)] _ _
      have hxs := h1.2.2 _ (List.mem_of_getElem? hx1)
      have hq := sumE_qk hfb (by omega) (sizes := sizes.take i1) (by rw [List.length_take]; omega)
      have he := EB_qk (by omega) (eF_eb hfb x1.toNat)
      refine (s_asg (ed_call (ds := [(eQ (sumE (meanF legs chances) (sizes.take (i1)))), (eQ (ixG (esF ((meanF legs chances))) x1))]) (ea_cons (ed_var rfl) (ea_cons (ed_ixLX (f := eQ) (l := (esF ((meanF legs chances)))) (ed_var rfl) (ed_var rfl) (by exact inb (by omega))) ea_nil)) ⟨(sumE (meanF legs chances) (sizes.take (i1))), (ixG (esF ((meanF legs chances))) x1), rfl, by exact hq.qb (by decide), by rw [esF_atI (by omega)]; exact he.qb (by decide), rfl⟩) (s_le (ρ1 := [.da ((eT (eP eQ PyData.str)) legs), .da ((eT PyData.int) sizes), .da (PyData.int stake), .da ((eT eQ) chances), .no, .da ((eL eQ) (esF ((meanF legs chances)))), .no, .da (eQ (((sumE (meanF legs chances) (sizes.take (i1)))) + ((ixG (esF ((meanF legs chances))) x1)))), .da (PyData.int x1)]) (le_rfl rfl) ?_))
      exact s_end (le_same (le_same (le_same (le_same (le_no (le_same (le_no (le_da (by rw [esF_atI (by omega)]; exact congrArg eQ (take_sum (f := fun s : Int => eF (meanF legs chances) s.toNat) hx1)) (le_no le_nil)))))))))
    exact s_ret (ed_is (ed_call (ds := [(eQ (sumE (meanF legs chances) (sizes.take ((sizes).length)))), (eQ ((stake : Int) : Rat))]) (ea_cons (ed_var rfl) (ea_cons (ed_is (d1 := eQ ((stake : Int) : Rat)) (ed_tup (ds := [PyData.int stake, PyData.int (1 : Int)]) (ea_cons (ed_var rfl) (ea_cons ed_int ea_nil))) rfl) ea_nil)) ⟨(sumE (meanF legs chances) (sizes.take ((sizes).length))), ((stake : Int) : Rat), rfl, by rw [List.take_length]; exact (sumE_qk hfb (by omega) (by omega)).qb (by decide), by exact (int_qk (k := 64) (by omega)).qb (by decide), rfl⟩) (by rw [List.take_length] : (eQ (((sumE (meanF legs chances) (sizes.take ((sizes).length)))) * (((stake : Int) : Rat)))) = (eQ (sumE (meanF legs chances) sizes * ((stake : Int) : Rat))))) hR

/-! ### fair_price -/
abbrev s_fair_price : Stmt := topS 36
abbrev N_fair_price : List Str := ["chances", "chance", "part"]
theorem sc_fair_price : FnScope N_fair_price ["chances"] (defScope s_fair_price) := ⟨rfl, rfl, rfl, by decide +kernel, rfl, by decide +kernel, by decide +kernel⟩
def R_fair_price : List PyData → PyData → Prop := fun ds d => ∃ (chances : (List Rat)), ds = [((eT eQ) chances)] ∧ (∃ n, n ≤ 10 ∧ ChsOk n chances ∧ 1 ≤ n) ∧ d = (eQ ((prodQ chances)⁻¹))
set_option maxHeartbeats 4000000 in
theorem ok_fair_price {P : Program} {w : World} {K : PySem.W.Frag} {mg : Str → Option Value} {base : Heap} (B : Gb K mg) (F : Fd K mg "fair_price" s_fair_price) (C_is_quotient : Cl P w K mg base 2 "is_quotient" ["value"] (SpP K R_is_quotient)) (C_product_of : Cl P w K mg base 4 "product_of" ["rows"] (SpP K R_product_of)) (C_quotient : Cl P w K mg base 2 "quotient" ["up", "down"] (SpP K R_quotient)) : Cl P w K mg base 5 "fair_price" ["chances"] (SpP K R_fair_price) := by
  have BG := B
  obtain ⟨f, fd, F, hm⟩ := F.ex
  refine ⟨f, fd, fnG_of (k := 4) F sc_fair_price (spP_len fun ds d h => ?_) (fun cdv A outer s H hr hgd => ⟨_, (pss_cons (ps_if (PW.pt (pw_or (pt_not (pt_truth (pe_callB (r := rIsi K) call_isi (by rfl) B.isinstance_ boot_isinstance (pa_cons (pv 0) (pa_cons (pe_bltn (v := .ty "tuple") (u := .type "tuple") (by rfl) B.tuple_ PyProof.Rows.boot_tuple rfl) pa_nil))) (fun _ => rfl))) (pw_or1 (pt_not (pt_chain op_le op_le pe_int (pe_callB (r := rLenS K) call_len_seq (by rfl) B.len_ PySem.boot_len (pa_cons (pv 0) pa_nil)) (pe_glob (v := .int 10) rfl B.c_MAX_LEGS.choose_spec ⟨_, rfl⟩)))))) pss_never pss_nil) (pss_cons (ps_for PassesOwn.never rfl (pi_tup (pv 0)) (pg_name (i := 1) sc_fair_price.nd rfl (Or.inl rfl)) (pss_one (ps_if (PW.pt (pw_or (pt_not (pt_truth (pe_cl C_is_quotient (hr.mono (by decide)) hgd (by rfl) (pa_cons (pv 1) pa_nil)) (fun _ => rfl))) (pw_or1 (pt_not (pt_chain3 op_le op_le op_le pe_int (pe_ix (r := rIxT K) ix_tup (pv 1) pe_int (fun _ _ => rfl)) (pe_ix (r := rIxT K) ix_tup (pv 1) pe_int (fun _ _ => rfl)) (pe_glob (v := .int 1000) rfl B.c_MAX_PART.choose_spec ⟨_, rfl⟩)))))) pss_never pss_nil))) (pss_cons (ps_set (i := 2) sc_fair_price.nd rfl (Or.inl rfl) (pe_cl C_product_of (hr.mono (by decide)) hgd (by rfl) (pa_cons (pv 0) pa_nil))) (pss_one (ps_ret (pe_cl C_quotient (hr.mono (by decide)) hgd (by rfl) (pa_cons (pe_ix (r := rIxT K) ix_tup (pv 2) pe_int (fun _ _ => rfl)) (pa_cons (pe_ix (r := rIxT K) ix_tup (pv 2) pe_int (fun _ _ => rfl)) pa_nil)))))))), fun vs Q => fn_pure (N := N_fair_price) (fun ds d h => ?_) (fun B S ds d h D hR hN => ?_) vs H Q E0⟩), hm, F.kp, F.binds fun _ _ _ _ _ _ us hl => match us, hl with | [_], _ => rfl⟩
  · obtain ⟨chances, rfl, h0, rfl⟩ := h; rfl
  · obtain ⟨chances, rfl, h0, rfl⟩ := h; simp
  · obtain ⟨chances, rfl, h0, rfl⟩ := h
    obtain ⟨n, hn, hc, hn1⟩ := h0
    have hcl := hc.1
    have hqp := prodQ_qk (chs_fb hc) (by omega)
    have hpos := prodQ_pos hc
    have hnp := num_pos1 hpos
    have hnl := hqp.1
    show Ss _ _ [.da ((eT eQ) chances), .no, .no] _ _
    refine s_seq (s_skip (et_or (et_not (et_truB (ed_isi (ed_var rfl) (show kitB "tuple" "tuple" = some true by decide +kernel)))) (fun hb2 => (et_not (et_chain (ed_chain ed_int (ed_lenTX (ed_var rfl)) (fun hb1 => ed_int)))))) (by simp; omega : ((!true) || (!(decide ((1 : Int) ≤ ((chances).length : Int)) && decide (((chances).length : Int) ≤ (10 : Int))))) = false) ?_)
    refine s_seq (s_forX (chances) (fun x => Itm.hard (eQ x)) (ei_tupX (ed_var rfl)) (fun i0 => [.da ((eT eQ) chances), .no, .no]) (le_same (le_no (le_no le_nil))) (fun T0 hT0 i0 x0 hx0 => ⟨_, [1], (eg_name (by simp)), ?_⟩) ?_)
    · show Ss _ _ [.da ((eT eQ) chances), .da (eQ x0), .no] _ _
      obtain ⟨⟨hxa, hxb, _⟩, hxd⟩ := hc.2 x0 (List.mem_of_getElem? hx0)
      have hxp := x0.den_pos
      refine (s_skip (et_or (et_not (et_truB (ed_call (ds := [(eQ x0)]) (ea_cons (ed_var rfl) ea_nil) ⟨x0, rfl, rfl⟩))) (fun hb3 => (et_not (et_chain (ed_chain3 ed_int (ed_ixT (ed_var rfl) ed_int rfl) (ed_ixT (ed_var rfl) ed_int rfl) ed_int))))) (by rw [decide_eq_true hxa, decide_eq_true hxb, decide_eq_true (show (x0.den : Int) ≤ 1000 by omega)]; rfl : ((!(true)) || (!(decide ((1 : Int) ≤ (x0).num) && (decide ((x0).num ≤ ((x0).den : Int)) && decide (((x0).den : Int) ≤ (1000 : Int)))))) = false) ?_)
      exact s_end (le_same (le_no (le_no le_nil)))
    refine s_seq (s_asg (ed_call (ds := [((eS eQ) (false, chances))]) (ea_cons (ed_is (ed_var rfl) (rfl : _ = ((eS eQ) (false, chances)))) ea_nil) ⟨(false, chances), rfl, by exact ⟨chs_fb hc, by show chances.length ≤ 11; omega⟩, rfl⟩) (s_le (ρ1 := [.da ((eT eQ) chances), .no, .da (eQ (prodQ ((false, chances)).2))]) (le_rfl rfl) ?_))
    exact s_ret (ed_is (ed_call (ds := [(PyData.int (((prodQ ((false, chances)).2)).den : Int)), (PyData.int (((prodQ ((false, chances)).2)).num))]) (ea_cons (ed_ixT (ed_var rfl) ed_int rfl) (ea_cons (ed_ixT (ed_var rfl) ed_int rfl) ea_nil)) ⟨(((prodQ ((false, chances)).2)).den : Int), ((prodQ ((false, chances)).2)).num, rfl, by show (prodQ chances).num ≠ 0; omega, by exact Nat.lt_of_le_of_lt hnl (Nat.pow_lt_pow_right (by decide) (by decide)), rfl⟩) (by exact congrArg eQ (inv_div _) : (eQ (Rat.divInt ((((prodQ ((false, chances)).2)).den : Int)) (((prodQ ((false, chances)).2)).num))) = (eQ ((prodQ chances)⁻¹)))) hR

/-! ### sorted_prices -/
abbrev s_sorted_prices : Stmt := topS 34
abbrev N_sorted_prices : List Str := ["legs", "left", "leg", "found", "best", "at", "price"]
theorem sc_sorted_prices : FnScope N_sorted_prices ["legs"] (defScope s_sorted_prices) := ⟨rfl, rfl, rfl, by decide +kernel, rfl, by decide +kernel, by decide +kernel⟩
def R_sorted_prices : List PyData → PyData → Prop := fun ds d => ∃ (legs : (List (Rat × Str))), ds = [((eT (eP eQ PyData.str)) legs)] ∧ (LegsOk 10 legs) ∧ d = ((eL eQ) (pricesS legs))
set_option maxHeartbeats 4000000 in
theorem ok_sorted_prices {P : Program} {w : World} {K : PySem.W.Frag} {mg : Str → Option Value} {base : Heap} (B : Gb K mg) (F : Fd K mg "sorted_prices" s_sorted_prices) : Cl P w K mg base 1 "sorted_prices" ["legs"] (SpP K R_sorted_prices) := by
  have BG := B
  obtain ⟨f, fd, F, hm⟩ := F.ex
  refine ⟨f, fd, fnG_of (k := 0) F sc_sorted_prices (spP_len fun ds d h => ?_) (fun cdv A outer s H hr hgd => ⟨_, (pss_cons (ps_setLc (i := 1) (own := [("leg", 2)]) (g := _) (tt := tYes) rfl sc_sorted_prices.nd rfl rfl (sw_true rfl rfl rfl (by decide +kernel)) (pi_tup (pv 0)) (blkOk_by (N := N_sorted_prices) (sc := defScope s_sorted_prices) (by decide +kernel)) (fun _ _ _ _ _ => (pg_name (i := 2) sc_sorted_prices.nd rfl (by first | exact Or.inl rfl | exact Or.inr rfl))) (fun _ _ _ _ _ => pts_nil) (fun _ _ _ _ _ => (pe_ix (r := rIxT K) ix_tup (pv 2) pe_int (fun _ _ => rfl)))) (pss_cons (ps_set (i := 3) sc_sorted_prices.nd rfl (Or.inl rfl) (pe_lst pa_nil)) (pss_cons (ps_while PassesOwn.never (pt_truth (pv 1) (fun _ => rfl)) (pss_cons (ps_set (i := 4) sc_sorted_prices.nd rfl (Or.inl rfl) pe_int) (pss_cons (ps_for PassesOwn.never rfl (pi_enum (by rfl) B.enumerate_ (pa_cons (pv 1) pa_nil)) (pg_tup rfl (pgs_cons (pg_name (i := 5) sc_sorted_prices.nd rfl (Or.inl rfl)) (pgs_cons (pg_name (i := 6) sc_sorted_prices.nd rfl (Or.inl rfl)) pgs_nil))) (pss_one (ps_if (pt_cmpR op_lt (pe_op op_mulG (pe_ix (r := rIxT K) ix_tup (pv 6) pe_int (fun _ _ => rfl)) (pe_ix (r := rIxT K) ix_tup (pe_ix (r := rIxL K) ix_list (pv 1) (pv 4) (fun _ _ => rfl)) pe_int (fun _ _ => rfl))) (pe_op op_mulG (pe_ix (r := rIxT K) ix_tup (pe_ix (r := rIxL K) ix_list (pv 1) (pv 4) (fun _ _ => rfl)) pe_int (fun _ _ => rfl)) (pe_ix (r := rIxT K) ix_tup (pv 6) pe_int (fun _ _ => rfl))) (nomark _)) (pss_one (ps_set (i := 4) sc_sorted_prices.nd rfl (Or.inl rfl) (pv 5))) pss_nil))) (pss_one (ps_expr (pe_bm PySem.F.plainAttrs_list PySem.F.slot_list_append PySem.F.type_list_append mt_append (pv 3) (pa_cons (pe_bmK (K := K) (r := rPopAt) PySem.F.plainAttrs_list PySem.F.slot_list_pop PySem.F.type_list_pop mt_popAt (pv 1) (pa_cons (pv 4) pa_nil)) pa_nil))))))) (pss_one (ps_ret (pv 3)))))), fun vs Q => fn_pure (N := N_sorted_prices) (fun ds d h => ?_) (fun B S ds d h D hR hN => ?_) vs H Q E0⟩), hm, F.kp, F.binds fun _ _ _ _ _ _ us hl => match us, hl with | [_], _ => rfl⟩
  · obtain ⟨legs, rfl, h0, rfl⟩ := h; rfl
  · obtain ⟨legs, rfl, h0, rfl⟩ := h; simp
  · obtain ⟨legs, rfl, h0, rfl⟩ := h
    have hl1 := h0.1
    have hl2 := h0.2.1
    show Ss _ _ [.da ((eT (eP eQ PyData.str)) legs), .no, .no, .no, .no, .no, .no] _ _
    refine s_seq (s_asgM (ds := (((legs).map fun (x1 : (Rat × Str)) => (x1).1)).map eQ) (el_lcAX (xs := legs) (ea := fun x => Itm.hard ((eP eQ PyData.str) x)) (enc := eQ) (fb := fun (x1 : (Rat × Str)) => (x1).1) (ei_tupX (ed_var rfl)) (by omega) (by simp) (fun _ _ x1 hx1 => ⟨_, rfl, (eg_name (by simp)), (ed_ixT (ed_var rfl) ed_int rfl)⟩)) (fun p_left2 => s_le (ρ1 := [.da ((eT (eP eQ PyData.str)) legs), .mu true p_left2 (.lst (((legs).map fun (x1 : (Rat × Str)) => (x1).1).map eQ)), .no, .no, .no, .no, .no]) (le_rfl rfl) ?_))
    refine s_seq (s_asgM (ds := ([]).map eQ) (el_lst (ds := [].map eQ) ea_nil) (fun p_found3 => s_le (ρ1 := [.da ((eT (eP eQ PyData.str)) legs), .mu true p_left2 (.lst (((legs).map fun (x1 : (Rat × Str)) => (x1).1).map eQ)), .no, .mu true p_found3 (.lst ([].map eQ)), .no, .no, .no]) (le_rfl rfl) ?_))
    refine s_seq (s_while (α := List Rat × List Rat) (fun a => [.da ((eT (eP eQ PyData.str)) legs), .mu true p_left2 (.lst (a.1.map eQ)), .no, .mu true p_found3 (.lst (a.2.map eQ)), .no, .no, .no]) (fun a => SelP (legs.map fun l => l.1) a) (fun a => a.1.length) ((legs.map (fun l => l.1), [])) (by exact sel_init _) (le_same (le_mu (congrArg MO.lst (by rfl)) (le_no (le_mu (congrArg MO.lst (by rfl)) (le_no (le_no (le_no le_nil))))))) (fun a hP => ⟨_, _, (et_truM rfl), fun hb => ?_, fun hb => ?_⟩))
    · have hne : a.1 ≠ [] := fun e => by rw [e] at hb; cases hb
      have hnx := selP_next hP hne
      have hsm := sel_small h0 hP
      have hal := hP.2.1
      rw [List.length_map] at hal
      have hbl := fun k (hk : k ≤ a.1.length) => bestI_lt (l := a.1) (by have := List.length_pos_iff.mpr hne; omega) k hk
      have hzl : a.1.zipIdx.length = a.1.length := List.length_zipIdx
      refine s_seq (s_asg ed_int (s_le (ρ1 := [.da ((eT (eP eQ PyData.str)) legs), .mu true p_left2 (.lst (a.1.map eQ)), .no, .mu true p_found3 (.lst (a.2.map eQ)), .da (PyData.int (0 : Int)), .no, .no]) (le_rfl rfl) ?_))
      refine s_seq (s_forEM (f := eQ) (a.1) rfl (fun i0 => [.da ((eT (eP eQ PyData.str)) legs), .mu true p_left2 (.lst (a.1.map eQ)), .no, .mu true p_found3 (.lst (a.2.map eQ)), .da (PyData.int ((bestI a.1 i0 : Nat) : Int)), .no, .no]) (le_same (le_same (le_no (le_same (le_da (by rfl) (le_no (le_no le_nil))))))) (fun _ => rfl) (fun T0 hT0 i0 x0 hx0 => ⟨_, [5, 6], (eg_soft (egs_cons (eg_name (by simp)) (egs_cons (eg_name (by simp)) egs_nil))), ?_⟩) ?_)
      · show Ss _ _ [.da ((eT (eP eQ PyData.str)) legs), .mu true p_left2 (.lst (a.1.map eQ)), .no, .mu true p_found3 (.lst (a.2.map eQ)), .da (PyData.int ((bestI a.1 i0 : Nat) : Int)), .da (PyData.int ((x0).2 : Int)), .da (eQ (x0).1)] _ _
        have hi0 := (en_get hx0).2.2
        have hbi := hbl i0 (by omega)
        have hs1 := hsm x0.1 (List.mem_of_getElem? (en_get hx0).2.1)
        have hs2 := hsm _ (ixG_mem (l := a.1) (i := ((bestI a.1 i0 : Nat) : Int)) (by omega))
        refine (s_if (b := (decide ((((x0).1).num * (((ixG a.1 ((bestI a.1 i0 : Nat) : Int))).den : Int)) < (((ixG a.1 ((bestI a.1 i0 : Nat) : Int))).num * (((x0).1).den : Int))))) (et_test (ed_B0 (ed_I (ed_ixT (ed_var rfl) ed_int rfl) (ed_ixT (ed_ixMX (f := eQ) (xs := a.1) (ed_var rfl) rfl ⟨_, _, rfl⟩ (by exact inb (by omega))) ed_int rfl) (by first | assumption | exact mul_l (by omega) (by omega) | exact mul_r (by omega) (by omega))) (ed_I (ed_ixT (ed_ixMX (f := eQ) (xs := a.1) (ed_var rfl) rfl ⟨_, _, rfl⟩ (by exact inb (by omega))) ed_int rfl) (ed_ixT (ed_var rfl) ed_int rfl) (by first | assumption | exact mul_l (by omega) (by omega) | exact mul_r (by omega) (by omega))))) (fun hc0 => ?_) (fun hc0 => ?_))
        · refine (s_asg (ed_var rfl) (s_le (ρ1 := [.da ((eT (eP eQ PyData.str)) legs), .mu true p_left2 (.lst (a.1.map eQ)), .no, .mu true p_found3 (.lst (a.2.map eQ)), .da (PyData.int ((x0).2 : Int)), .da (PyData.int ((x0).2 : Int)), .da (eQ (x0).1)]) (le_rfl rfl) ?_))
          exact s_end (le_same (le_same (le_no (le_same (le_da (by first | exact best_then hx0 (by assumption) | exact best_else hx0 (by assumption)) (le_no (le_no le_nil)))))))
        · refine s_next ?_
          exact s_end (le_same (le_same (le_no (le_same (le_da (by first | exact best_then hx0 (by assumption) | exact best_else hx0 (by assumption)) (le_no (le_no le_nil)))))))
      refine (s_append (ed_popAt (f := eQ) (xs := a.1) (n := (((bestI a.1 ((a.1).zipIdx).length : Nat) : Int)).toNat) (x := ixG a.1 ((bestI a.1 ((a.1).zipIdx).length : Nat) : Int)) (ed_var rfl) ⟨_, _, rfl⟩ rfl (by rfl) (by rw [hzl]; exact ixG_some (i := (bestI a.1 a.1.length : Int)) (by have := hbl _ (Nat.le_refl _); omega)) (by omega)) ⟨_, _, rfl⟩ rfl (by rw [List.length_map]; omega) (s_le (ρ1 := [.da ((eT (eP eQ PyData.str)) legs), .mu true p_left2 (.lst ((a.1.eraseIdx (((bestI a.1 ((a.1).zipIdx).length : Nat) : Int)).toNat).map eQ)), .no, .mu true p_found3 (.lst ((a.2 ++ [(ixG a.1 ((bestI a.1 ((a.1).zipIdx).length : Nat) : Int))]).map eQ)), .da (PyData.int ((bestI a.1 ((a.1).zipIdx).length : Nat) : Int)), .no, .no]) (le_same (le_same (le_same (le_mu (congrArg MO.lst (by simp)) (le_same (le_same (le_same le_nil))))))) ?_))
      exact s_endW (a.1.eraseIdx (bestI a.1 a.1.length), a.2 ++ [ixG a.1 (bestI a.1 a.1.length : Int)]) (by exact hnx.1) (by exact hnx.2) (le_same (le_mu (congrArg MO.lst (by first | rfl | (rw [hzl]; rfl))) (le_no (le_mu (congrArg MO.lst (by first | rfl | (rw [hzl]))) (le_no (le_no (le_no le_nil)))))))
    · refine s_le (ρ1 := [.da ((eT (eP eQ PyData.str)) legs), .mu true p_left2 (.lst (a.1.map eQ)), .no, .da ((eL eQ) a.2), .no, .no, .no]) (le_same (le_same (le_no (le_frz (le_no (le_no (le_no le_nil))))))) ?_
      exact s_ret (ed_is (ed_var rfl) (by exact congrArg (fun z => PyData.list (List.map eQ z)) (sel_end hP hb) : ((eL eQ) a.2) = ((eL eQ) (pricesS legs)))) hR

/-! ### least_winners -/
abbrev s_least_winners : Stmt := topS 33
abbrev N_least_winners : List Str := ["legs", "sizes", "stake", "prices", "whole", "size", "many", "rows", "total"]
theorem sc_least_winners : FnScope N_least_winners ["legs", "sizes", "stake"] (defScope s_least_winners) := ⟨rfl, rfl, rfl, by decide +kernel, rfl, by decide +kernel, by decide +kernel⟩
def R_least_winners : List PyData → PyData → Prop := fun ds d => ∃ (legs : (List (Rat × Str))) (sizes : (List Int)) (stake : Int), ds = [((eT (eP eQ PyData.str)) legs), ((eT PyData.int) sizes), (PyData.int stake)] ∧ (LegsOk 10 legs) ∧ (SzOk legs.length sizes) ∧ (1 ≤ stake ∧ stake ≤ 1000) ∧ d = ((eO PyData.int) (leastF (pricesS legs) sizes (wholeC legs.length sizes) legs.length))
set_option maxHeartbeats 4000000 in
theorem ok_least_winners {P : Program} {w : World} {K : PySem.W.Frag} {mg : Str → Option Value} {base : Heap} (B : Gb K mg) (F : Fd K mg "least_winners" s_least_winners) (C_check_legs : Cl P w K mg base 4 "check_legs" ["legs"] (SpP K R_check_legs)) (C_check_sizes : Cl P w K mg base 2 "check_sizes" ["legs", "sizes"] (SpP K R_check_sizes)) (C_check_stake : Cl P w K mg base 2 "check_stake" ["stake"] (SpP K R_check_stake)) (C_choose : Cl P w K mg base 1 "choose" ["many", "few"] (SpP K R_choose)) (C_plus : Cl P w K mg base 3 "plus" ["first", "second"] (SpP K R_plus)) (C_sorted_prices : Cl P w K mg base 1 "sorted_prices" ["legs"] (SpP K R_sorted_prices)) (C_sums_of : Cl P w K mg base 4 "sums_of" ["factors"] (SpP K R_sums_of)) : Cl P w K mg base 5 "least_winners" ["legs", "sizes", "stake"] (SpP K R_least_winners) := by
  have BG := B
  obtain ⟨f, fd, F, hm⟩ := F.ex
  refine ⟨f, fd, fnG_of (k := 4) F sc_least_winners (spP_len fun ds d h => ?_) (fun cdv A outer s H hr hgd => ⟨_, (pss_cons (ps_expr (pe_cl C_check_legs (hr.mono (by decide)) hgd (by rfl) (pa_cons (pv 0) pa_nil))) (pss_cons (ps_expr (pe_cl C_check_sizes (hr.mono (by decide)) hgd (by rfl) (pa_cons (pv 0) (pa_cons (pv 1) pa_nil)))) (pss_cons (ps_expr (pe_cl C_check_stake (hr.mono (by decide)) hgd (by rfl) (pa_cons (pv 2) pa_nil))) (pss_cons (ps_set (i := 3) sc_least_winners.nd rfl (Or.inl rfl) (pe_cl C_sorted_prices (hr.mono (by decide)) hgd (by rfl) (pa_cons (pv 0) pa_nil))) (pss_cons (ps_set (i := 4) sc_least_winners.nd rfl (Or.inl rfl) (pe_callB (r := rSumT K) (cr_sumT rfl) (by rfl) B.sum_ (by decide +kernel) (pa_cons (pe_lc (own := [("size", 5)]) (g := _) (tt := tYes) rfl sc_least_winners.nd (pi_tup (pv 1)) (blkOk_by (N := N_least_winners) (sc := defScope s_least_winners) (by decide +kernel)) (fun _ _ _ _ _ => (pg_name (i := 5) sc_least_winners.nd rfl (by first | exact Or.inl rfl | exact Or.inr rfl))) (fun _ _ _ _ _ => pts_nil) (fun _ _ _ _ _ => (pe_cl C_choose (hr.mono (by decide)) hgd (by rfl) (pa_cons (pe_callB (r := rLenS K) call_len_seq (by rfl) B.len_ PySem.boot_len (pa_cons (pv 0) pa_nil)) (pa_cons (pv 5) pa_nil))))) pa_nil))) (pss_cons (ps_for PassesOwn.never rfl (pi_range1 (by rfl) B.range_ (pa_cons (pe_op op_add (pe_callB (r := rLenS K) call_len_seq (by rfl) B.len_ PySem.boot_len (pa_cons (pv 0) pa_nil)) pe_int) pa_nil)) (pg_name (i := 6) sc_least_winners.nd rfl (Or.inl rfl)) (pss_cons (ps_set (i := 7) sc_least_winners.nd rfl (Or.inl rfl) (pe_cl C_sums_of (hr.mono (by decide)) hgd (by rfl) (pa_cons (pe_slice sl_list (pv 3) po_none (po_some (pv 6))) pa_nil))) (pss_cons (ps_set (i := 8) sc_least_winners.nd rfl (Or.inl rfl) (pe_tupF (pa_cons pe_int (pa_cons pe_int pa_nil)))) (pss_cons (ps_for PassesOwn.never rfl (pi_tup (pv 1)) (pg_name (i := 5) sc_least_winners.nd rfl (Or.inl rfl)) (pss_one (ps_if (pt_cmpR op_le (pv 5) (pv 6) (nomark _)) (pss_one (ps_set (i := 8) sc_least_winners.nd rfl (Or.inl rfl) (pe_cl C_plus (hr.mono (by decide)) hgd (by rfl) (pa_cons (pv 8) (pa_cons (pe_ix (r := rIxL K) ix_list (pv 7) (pv 5) (fun _ _ => rfl)) pa_nil))))) pss_nil))) (pss_one (ps_if (pt_cmpR op_ge (pe_ix (r := rIxT K) ix_tup (pv 8) pe_int (fun _ _ => rfl)) (pe_op op_mulG (pv 4) (pe_ix (r := rIxT K) ix_tup (pv 8) pe_int (fun _ _ => rfl))) (nomark _)) (pss_one (ps_ret (pv 6))) pss_nil)))))) (pss_one (ps_ret pe_non)))))))), fun vs Q => fn_pure (N := N_least_winners) (fun ds d h => ?_) (fun B S ds d h D hR hN => ?_) vs H Q E0⟩), hm, F.kp, F.binds fun _ _ _ _ _ _ us hl => match us, hl with | [_, _, _], _ => rfl⟩
  · obtain ⟨legs, sizes, stake, rfl, h0, h1, h2, rfl⟩ := h; rfl
  · obtain ⟨legs, sizes, stake, rfl, h0, h1, h2, rfl⟩ := h; simp
  · obtain ⟨legs, sizes, stake, rfl, h0, h1, h2, rfl⟩ := h
    have hl1 := h0.1
    have hl2 := h0.2.1
    have hsl := szOk_len h1
    have hwl := whole_le hl2 h1
    have hpl := prices_len legs
    have hpf := prices_fb h0
    show Ss _ _ [.da ((eT (eP eQ PyData.str)) legs), .da ((eT PyData.int) sizes), .da (PyData.int stake), .no, .no, .no, .no, .no, .no] _ _
    refine s_seq (s_drop (ed_call (ds := [((eT (eP eQ PyData.str)) legs)]) (ea_cons (ed_var rfl) ea_nil) ⟨legs, rfl, by assumption, rfl⟩) ?_)
    refine s_seq (s_drop (ed_call (ds := [((eT (eP eQ PyData.str)) legs), ((eT PyData.int) sizes)]) (ea_cons (ed_var rfl) (ea_cons (ed_var rfl) ea_nil)) ⟨legs, sizes, rfl, by assumption, by assumption, rfl⟩) ?_)
    refine s_seq (s_drop (ed_call (ds := [(PyData.int stake)]) (ea_cons (ed_var rfl) ea_nil) ⟨stake, rfl, by assumption, rfl⟩) ?_)
    refine s_seq (s_asg (ed_call (ds := [((eT (eP eQ PyData.str)) legs)]) (ea_cons (ed_var rfl) ea_nil) ⟨legs, rfl, by assumption, rfl⟩) (s_le (ρ1 := [.da ((eT (eP eQ PyData.str)) legs), .da ((eT PyData.int) sizes), .da (PyData.int stake), .da ((eL eQ) (pricesS (legs))), .no, .no, .no, .no, .no]) (le_rfl rfl) ?_))
    refine s_seq (s_asg (ed_is (ed_sumL (ed_L (el_lcAX (xs := sizes) (ea := fun x => Itm.hard (PyData.int x)) (enc := PyData.int) (fb := fun (x1 : Int) => (chI (((legs).length : Int)) (x1))) (ei_tupX (ed_var rfl)) (by omega) (by simp) (fun _ _ x1 hx1 => ⟨_, rfl, (eg_name (by simp)), (ed_call (ds := [(PyData.int ((legs).length : Int)), (PyData.int x1)]) (ea_cons (ed_lenTX (ed_var rfl)) (ea_cons (ed_var rfl) ea_nil)) ⟨((legs).length : Int), x1, rfl, by have := h1.2.2 _ (by assumption); omega, rfl⟩)⟩)))) (by rfl : _ = (PyData.int (wholeC legs.length sizes)))) (s_le (ρ1 := [.da ((eT (eP eQ PyData.str)) legs), .da ((eT PyData.int) sizes), .da (PyData.int stake), .da ((eL eQ) (pricesS (legs))), .da (PyData.int (wholeC legs.length sizes)), .no, .no, .no, .no]) (le_rfl rfl) ?_))
    refine s_seq (s_forN (β := Unit) ((List.range ((((legs).length : Int) + (1 : Int))).toNat)) (fun (i : Nat) => Itm.hard (PyData.int (i : Int))) (ei_rng (ed_I0 (ed_lenTX (ed_var rfl)) ed_int) (by omega)) (fun i0 b0 => ∀ j, j < i0 → enoughB (pricesS legs) sizes (wholeC legs.length sizes) j = false) (fun i0 b0 => [.da ((eT (eP eQ PyData.str)) legs), .da ((eT PyData.int) sizes), .da (PyData.int stake), .da ((eL eQ) (pricesS (legs))), .da (PyData.int (wholeC legs.length sizes)), .no, .no, .no, .no]) (()) (by intro j hj; exact absurd hj (Nat.not_lt_zero j)) (le_same (le_same (le_same (le_same (le_same (le_no (le_no (le_no (le_no le_nil))))))))) (fun T0 hT0 i0 x0 b0 hx0 hP0 => ⟨_, [6], (eg_name (by simp)), ?_⟩) (fun b0 hP0 => ?_))
    · show Ss _ _ [.da ((eT (eP eQ PyData.str)) legs), .da ((eT PyData.int) sizes), .da (PyData.int stake), .da ((eL eQ) (pricesS (legs))), .da (PyData.int (wholeC legs.length sizes)), .no, .da (PyData.int (x0 : Int)), .no, .no] _ _
      obtain ⟨hxe, hxn⟩ := rng_get hx0
      have htl : ((pricesS legs).take x0).length = x0 := by rw [List.length_take]; omega
      have htf := fun y (hy : y ∈ (pricesS legs).take x0) => hpf y (List.mem_of_mem_take hy)
      have hel := esF_len ((pricesS legs).take x0)
      refine s_seq (s_asg (ed_call (ds := [((eL eQ) ((pricesS legs).take x0))]) (ea_cons (ed_is (ed_L (el_sliceX (ed_var rfl) eo_no (eo_some (ed_var rfl)))) (by exact cut_take (by omega) : _ = ((eL eQ) ((pricesS legs).take x0)))) ea_nil) ⟨((pricesS legs).take x0), rfl, by exact ⟨htf, by show ((pricesS legs).take x0).length ≤ 11; omega⟩, rfl⟩) (s_le (ρ1 := [.da ((eT (eP eQ PyData.str)) legs), .da ((eT PyData.int) sizes), .da (PyData.int stake), .da ((eL eQ) (pricesS (legs))), .da (PyData.int (wholeC legs.length sizes)), .no, .da (PyData.int (x0 : Int)), .da ((eL eQ) (esF (((pricesS legs).take x0)))), .no]) (le_rfl rfl) ?_))
      refine s_seq (s_asg (ed_is (d1 := eQ (0 : Rat)) (ed_tup (ds := [PyData.int (0 : Int), PyData.int (1 : Int)]) (ea_cons ed_int (ea_cons ed_int ea_nil))) (by rfl)) (s_le (ρ1 := [.da ((eT (eP eQ PyData.str)) legs), .da ((eT PyData.int) sizes), .da (PyData.int stake), .da ((eL eQ) (pricesS (legs))), .da (PyData.int (wholeC legs.length sizes)), .no, .da (PyData.int (x0 : Int)), .da ((eL eQ) (esF (((pricesS legs).take x0)))), .da (eQ (0 : Rat))]) (le_rfl rfl) ?_))
      refine s_seq (s_forX (sizes) (fun x => Itm.hard (PyData.int x)) (ei_tupX (ed_var rfl)) (fun i1 => [.da ((eT (eP eQ PyData.str)) legs), .da ((eT PyData.int) sizes), .da (PyData.int stake), .da ((eL eQ) (pricesS (legs))), .da (PyData.int (wholeC legs.length sizes)), .no, .da (PyData.int (x0 : Int)), .da ((eL eQ) (esF (((pricesS legs).take x0)))), .da (eQ (sumE ((pricesS legs).take x0) (sizes.take (i1))))]) (le_same (le_same (le_same (le_same (le_same (le_no (le_same (le_same (le_da (by rfl) le_nil))))))))) (fun T1 hT1 i1 x1 hx1 => ⟨_, [5], (eg_name (by simp)), ?_⟩) ?_)
      · show Ss _ _ [.da ((eT (eP eQ PyData.str)) legs), .da ((eT PyData.int) sizes), .da (PyData.int stake), .da ((eL eQ) (pricesS (legs))), .da (PyData.int (wholeC legs.length sizes)), .da (PyData.int x1), .da (PyData.int (x0 : Int)), .da ((eL eQ) (esF (((pricesS legs).take x0)))), .da (eQ (sumE ((pricesS legs).take x0) (sizes.take (i1))))] _ _
        have hxs := h1.2.2 _ (List.mem_of_getElem? hx1)
        have hq := sumE_qk htf (by omega) (sizes := sizes.take i1) (by rw [List.length_take]; omega)
        have he := EB_qk (by omega) (eF_eb htf x1.toNat)
        refine (s_if (b := (decide (x1 ≤ (x0 : Int)))) (et_test (ed_B0 (ed_var rfl) (ed_var rfl))) (fun hc0 => ?_) (fun hc0 => ?_))
        · refine (s_asg (ed_call (ds := [(eQ (sumE ((pricesS legs).take x0) (sizes.take (i1)))), (eQ (ixG (esF (((pricesS legs).take x0))) x1))]) (ea_cons (ed_var rfl) (ea_cons (ed_ixLX (f := eQ) (l := (esF (((pricesS legs).take x0)))) (ed_var rfl) (ed_var rfl) (by exact inb (by simp at hc0; omega))) ea_nil)) ⟨(sumE ((pricesS legs).take x0) (sizes.take (i1))), (ixG (esF (((pricesS legs).take x0))) x1), rfl, by exact hq.qb (by decide), by rw [esF_atI (by simp at hc0; omega)]; exact he.qb (by decide), rfl⟩) (s_le (ρ1 := [.da ((eT (eP eQ PyData.str)) legs), .da ((eT PyData.int) sizes), .da (PyData.int stake), .da ((eL eQ) (pricesS (legs))), .da (PyData.int (wholeC legs.length sizes)), .da (PyData.int x1), .da (PyData.int (x0 : Int)), .da ((eL eQ) (esF (((pricesS legs).take x0)))), .da (eQ (((sumE ((pricesS legs).take x0) (sizes.take (i1)))) + ((ixG (esF (((pricesS legs).take x0))) x1))))]) (le_rfl rfl) ?_))
          exact s_end (le_same (le_same (le_same (le_same (le_same (le_no (le_same (le_same (le_da (by first | (rw [esF_atI (by simp at hc0; omega)]; exact congrArg eQ (take_sum (f := fun s : Int => eF ((pricesS legs).take x0) s.toNat) hx1)) | exact congrArg eQ (sum_skip hx1 (by assumption) (by omega))) le_nil)))))))))
        · refine s_next ?_
          exact s_end (le_same (le_same (le_same (le_same (le_same (le_no (le_same (le_same (le_da (by first | (rw [esF_atI (by simp at hc0; omega)]; exact congrArg eQ (take_sum (f := fun s : Int => eF ((pricesS legs).take x0) s.toNat) hx1)) | exact congrArg eQ (sum_skip hx1 (by assumption) (by omega))) le_nil)))))))))
      refine (s_if (b := (decide (((wholeC legs.length sizes) * (((sumE ((pricesS legs).take x0) (sizes.take ((sizes).length)))).den : Int)) ≤ ((sumE ((pricesS legs).take x0) (sizes.take ((sizes).length)))).num))) (et_test (ed_B0 (ed_ixT (ed_var rfl) ed_int rfl) (ed_I (ed_var rfl) (ed_ixT (ed_var rfl) ed_int rfl) (by exact mul_l (by omega) (by omega))))) (fun hc1 => ?_) (fun hc1 => ?_))
      · exact s_ret (ed_is (ed_is (ed_var rfl) (rfl : _ = ((eO PyData.int) (some (x0 : Int))))) (by exact least_some (fun j hj => hP0 j (by omega)) (by rw [List.take_length]) hc1 (by omega) : ((eO PyData.int) (some (x0 : Int))) = ((eO PyData.int) (leastF (pricesS legs) sizes (wholeC legs.length sizes) legs.length)))) hR
      · refine s_next ?_
        exact s_endN () (by rw [(rng_get hx0).1] at hc1; exact least_next hP0 (by rw [List.take_length]) hc1) (le_same (le_same (le_same (le_same (le_same (le_no (le_no (le_no (le_no le_nil)))))))))
    · exact s_ret (ed_is (ed_is ed_non (rfl : _ = ((eO PyData.int) (none : (Option Int))))) (by rw [List.length_range] at hP0; exact least_none (fun j hj => hP0 j (by omega)) : ((eO PyData.int) (none : (Option Int))) = ((eO PyData.int) (leastF (pricesS legs) sizes (wholeC legs.length sizes) legs.length)))) hR

/-! ### is_chance -/
abbrev s_is_chance : Stmt := topS 17
abbrev N_is_chance : List Str := ["value"]
theorem sc_is_chance : FnScope N_is_chance ["value"] (defScope s_is_chance) := ⟨rfl, rfl, rfl, by decide +kernel, rfl, by decide +kernel, by decide +kernel⟩
def R_is_chance : List PyData → PyData → Prop := fun ds d => ∃ (value : Rat), ds = [(eQ value)] ∧ (KeptOk value) ∧ d = (PyData.bool (true))
set_option maxHeartbeats 4000000 in
theorem ok_is_chance {P : Program} {w : World} {K : PySem.W.Frag} {mg : Str → Option Value} {base : Heap} (B : Gb K mg) (F : Fd K mg "is_chance" s_is_chance) (C_is_quotient : Cl P w K mg base 2 "is_quotient" ["value"] (SpP K R_is_quotient)) : Cl P w K mg base 3 "is_chance" ["value"] (SpP K R_is_chance) := by
  have BG := B
  obtain ⟨f, fd, F, hm⟩ := F.ex
  refine ⟨f, fd, fnG_of (k := 2) F sc_is_chance (spP_len fun ds d h => ?_) (fun cdv A outer s H hr hgd => ⟨_, (pss_one (ps_ret (pe_and (pe_cl C_is_quotient (hr.mono (by decide)) hgd (by rfl) (pa_cons (pv 0) pa_nil)) (pe_one (pe_chain3 op_le op_le op_le pe_int (pe_ix (r := rIxT K) ix_tup (pv 0) pe_int (fun _ _ => rfl)) (pe_ix (r := rIxT K) ix_tup (pv 0) pe_int (fun _ _ => rfl)) (pe_glob (v := .int 1000000) rfl B.c_MAX_AMOUNT.choose_spec ⟨_, rfl⟩)))))), fun vs Q => fn_pure (N := N_is_chance) (fun ds d h => ?_) (fun B S ds d h D hR hN => ?_) vs H Q E0⟩), hm, F.kp, F.binds fun _ _ _ _ _ _ us hl => match us, hl with | [_], _ => rfl⟩
  · obtain ⟨value, rfl, h0, rfl⟩ := h; rfl
  · obtain ⟨value, rfl, h0, rfl⟩ := h; simp
  · obtain ⟨value, rfl, h0, rfl⟩ := h
    have hk := kept_rng h0
    have hk0 := h0.1
    show Ss _ _ [.da (eQ value)] _ _
    exact s_ret (ed_is (ed_and (ed_call (ds := [(eQ value)]) (ea_cons (ed_var rfl) ea_nil) ⟨value, rfl, rfl⟩) (fun hb1 => (ed_chain3 ed_int (ed_ixT (ed_var rfl) ed_int rfl) (ed_ixT (ed_var rfl) ed_int rfl) ed_int))) (by rw [decide_eq_true (show (0 : Int) ≤ value.num by omega), decide_eq_true (show value.num ≤ (value.den : Int) by omega), decide_eq_true (show (value.den : Int) ≤ 1000000 by omega)]; rfl : (PyData.bool ((true) && (decide ((0 : Int) ≤ (value).num) && (decide ((value).num ≤ ((value).den : Int)) && decide (((value).den : Int) ≤ (1000000 : Int)))))) = (PyData.bool (true)))) hR

/-! ### check_pool -/
abbrev s_check_pool : Stmt := topS 38
abbrev N_check_pool : List Str := ["bets", "bet"]
theorem sc_check_pool : FnScope N_check_pool ["bets"] (defScope s_check_pool) := ⟨rfl, rfl, rfl, by decide +kernel, rfl, by decide +kernel, by decide +kernel⟩
def R_check_pool : List PyData → PyData → Prop := fun ds d => ∃ (bets : (List Int)), ds = [((eT PyData.int) bets)] ∧ (PoolOk bets) ∧ d = PyData.none
set_option maxHeartbeats 4000000 in
theorem ok_check_pool {P : Program} {w : World} {K : PySem.W.Frag} {mg : Str → Option Value} {base : Heap} (B : Gb K mg) (F : Fd K mg "check_pool" s_check_pool) (C_is_integer : Cl P w K mg base 1 "is_integer" ["value"] (SpP K R_is_integer)) : Cl P w K mg base 2 "check_pool" ["bets"] (SpP K R_check_pool) := by
  have BG := B
  obtain ⟨f, fd, F, hm⟩ := F.ex
  refine ⟨f, fd, fnG_of (k := 1) F sc_check_pool (spP_len fun ds d h => ?_) (fun cdv A outer s H hr hgd => ⟨_, (pss_cons (ps_if (PW.pt (pw_or (pt_not (pt_truth (pe_callB (r := rIsi K) call_isi (by rfl) B.isinstance_ boot_isinstance (pa_cons (pv 0) (pa_cons (pe_bltn (v := .ty "tuple") (u := .type "tuple") (by rfl) B.tuple_ PyProof.Rows.boot_tuple rfl) pa_nil))) (fun _ => rfl))) (pw_or1 (pt_not (pt_chain op_le op_le pe_int (pe_callB (r := rLenS K) call_len_seq (by rfl) B.len_ PySem.boot_len (pa_cons (pv 0) pa_nil)) (pe_glob (v := .int 20) rfl B.c_MAX_RUNNERS.choose_spec ⟨_, rfl⟩)))))) pss_never pss_nil) (pss_one (ps_if (pt_not (pt_truth (pe_callB (r := rAll K) (cr_all rfl) (by rfl) B.all_ (by decide +kernel) (pa_cons (pe_lc (own := [("bet", 1)]) (g := _) (tt := tYes) rfl sc_check_pool.nd (pi_tup (pv 0)) (blkOk_by (N := N_check_pool) (sc := defScope s_check_pool) (by decide +kernel)) (fun _ _ _ _ _ => (pg_name (i := 1) sc_check_pool.nd rfl (by first | exact Or.inl rfl | exact Or.inr rfl))) (fun _ _ _ _ _ => pts_nil) (fun _ _ _ _ _ => (pe_and (pe_cl C_is_integer (hr.mono (by decide)) hgd (by rfl) (pa_cons (pv 1) pa_nil)) (pe_one (pe_chain op_le op_le pe_int (pv 1) (pe_glob (v := .int 1000000) rfl B.c_MAX_AMOUNT.choose_spec ⟨_, rfl⟩)))))) pa_nil)) (fun _ => rfl))) pss_never pss_nil))), fun vs Q => fn_pure (N := N_check_pool) (fun ds d h => ?_) (fun B S ds d h D hR hN => ?_) vs H Q E0⟩), hm, F.kp, F.binds fun _ _ _ _ _ _ us hl => match us, hl with | [_], _ => rfl⟩
  · obtain ⟨bets, rfl, h0, rfl⟩ := h; rfl
  · obtain ⟨bets, rfl, h0, rfl⟩ := h; simp
  · obtain ⟨bets, rfl, h0, rfl⟩ := h
    have hl1 := h0.1
    have hl2 := h0.2.1
    show Ss _ _ [.da ((eT PyData.int) bets), .no] _ _
    refine s_seq (s_skip (et_or (et_not (et_truB (ed_isi (ed_var rfl) (show kitB "tuple" "tuple" = some true by decide +kernel)))) (fun hb2 => (et_not (et_chain (ed_chain ed_int (ed_lenTX (ed_var rfl)) (fun hb1 => ed_int)))))) (by simp; omega : ((!true) || (!(decide ((1 : Int) ≤ ((bets).length : Int)) && decide (((bets).length : Int) ≤ (20 : Int))))) = false) ?_)
    refine (s_skip (et_not (et_truB (ed_all (ed_L (el_lcAX (xs := bets) (ea := fun x => Itm.hard (PyData.int x)) (enc := PyData.bool) (fb := fun (x3 : Int) => ((isIntD ((PyData.int x3))) && (decide ((0 : Int) ≤ x3) && decide (x3 ≤ (1000000 : Int))))) (ei_tupX (ed_var rfl)) (by omega) (by simp) (fun _ _ x3 hx3 => ⟨_, rfl, (eg_name (by simp)), (ed_and (ed_call (ds := [(PyData.int x3)]) (ea_cons (ed_var rfl) ea_nil) ⟨(PyData.int x3), rfl, rfl⟩) (fun hb5 => (ed_chain ed_int (ed_var rfl) (fun hb4 => ed_int))))⟩)))))) (by rw [all_id (fun x hx => by have := h0.2.2 x hx; simp [isIntD, isi_int, isi_bool]; omega)]; rfl : (!((((bets).map fun (x3 : Int) => ((isIntD ((PyData.int x3))) && (decide ((0 : Int) ≤ x3) && decide (x3 ≤ (1000000 : Int)))))).all id)) = false) ?_)
    exact hN rfl _ _

/-! ### check_terms -/
abbrev s_check_terms : Stmt := topS 39
abbrev N_check_terms : List Str := ["kept", "step"]
theorem sc_check_terms : FnScope N_check_terms ["kept", "step"] (defScope s_check_terms) := ⟨rfl, rfl, rfl, by decide +kernel, rfl, by decide +kernel, by decide +kernel⟩
def R_check_terms : List PyData → PyData → Prop := fun ds d => ∃ (kept : Rat) (step : Int), ds = [(eQ kept), (PyData.int step)] ∧ (KeptOk kept) ∧ (1 ≤ step ∧ step ≤ 1000) ∧ d = PyData.none
set_option maxHeartbeats 4000000 in
theorem ok_check_terms {P : Program} {w : World} {K : PySem.W.Frag} {mg : Str → Option Value} {base : Heap} (B : Gb K mg) (F : Fd K mg "check_terms" s_check_terms) (C_is_chance : Cl P w K mg base 3 "is_chance" ["value"] (SpP K R_is_chance)) (C_is_integer : Cl P w K mg base 1 "is_integer" ["value"] (SpP K R_is_integer)) : Cl P w K mg base 4 "check_terms" ["kept", "step"] (SpP K R_check_terms) := by
  have BG := B
  obtain ⟨f, fd, F, hm⟩ := F.ex
  refine ⟨f, fd, fnG_of (k := 3) F sc_check_terms (spP_len fun ds d h => ?_) (fun cdv A outer s H hr hgd => ⟨_, (pss_cons (ps_if (PW.pt (pw_or (pt_not (pt_truth (pe_cl C_is_chance (hr.mono (by decide)) hgd (by rfl) (pa_cons (pv 0) pa_nil)) (fun _ => rfl))) (pw_or1 (pt_cmpR op_gt (pe_ix (r := rIxT K) ix_tup (pv 0) pe_int (fun _ _ => rfl)) (pe_glob (v := .int 1000) rfl B.c_MAX_PART.choose_spec ⟨_, rfl⟩) (nomark _))))) pss_never pss_nil) (pss_one (ps_if (PW.pt (pw_or (pt_not (pt_truth (pe_cl C_is_integer (hr.mono (by decide)) hgd (by rfl) (pa_cons (pv 1) pa_nil)) (fun _ => rfl))) (pw_or1 (pt_not (pt_chain op_le op_le pe_int (pv 1) (pe_glob (v := .int 1000) rfl B.c_MAX_PART.choose_spec ⟨_, rfl⟩)))))) pss_never pss_nil))), fun vs Q => fn_pure (N := N_check_terms) (fun ds d h => ?_) (fun B S ds d h D hR hN => ?_) vs H Q E0⟩), hm, F.kp, F.binds fun _ _ _ _ _ _ us hl => match us, hl with | [_, _], _ => rfl⟩
  · obtain ⟨kept, step, rfl, h0, h1, rfl⟩ := h; rfl
  · obtain ⟨kept, step, rfl, h0, h1, rfl⟩ := h; simp
  · obtain ⟨kept, step, rfl, h0, h1, rfl⟩ := h
    have hk := kept_rng h0
    show Ss _ _ [.da (eQ kept), .da (PyData.int step)] _ _
    refine s_seq (s_skip (et_or (et_not (et_truB (ed_call (ds := [(eQ kept)]) (ea_cons (ed_var rfl) ea_nil) ⟨kept, rfl, by assumption, rfl⟩))) (fun hb1 => (et_test (ed_B0 (ed_ixT (ed_var rfl) ed_int rfl) ed_int)))) (by simp; omega : ((!(true)) || (decide ((1000 : Int) < ((kept).den : Int)))) = false) ?_)
    refine (s_skip (et_or (et_not (et_truB (ed_call (ds := [(PyData.int step)]) (ea_cons (ed_var rfl) ea_nil) ⟨(PyData.int step), rfl, rfl⟩))) (fun hb3 => (et_not (et_chain (ed_chain ed_int (ed_var rfl) (fun hb2 => ed_int)))))) (by simp [isIntD, isi_int, isi_bool]; omega : ((!(isIntD ((PyData.int step)))) || (!(decide ((1 : Int) ≤ step) && decide (step ≤ (1000 : Int))))) = false) ?_)
    exact hN rfl _ _

/-! ### check_winners -/
abbrev s_check_winners : Stmt := topS 40
abbrev N_check_winners : List Str := ["bets", "winners", "one", "at"]
theorem sc_check_winners : FnScope N_check_winners ["bets", "winners"] (defScope s_check_winners) := ⟨rfl, rfl, rfl, by decide +kernel, rfl, by decide +kernel, by decide +kernel⟩
def R_check_winners : List PyData → PyData → Prop := fun ds d => ∃ (bets : (List Int)) (winners : (List Int)), ds = [((eT PyData.int) bets), ((eT PyData.int) winners)] ∧ (PoolOk bets) ∧ (WinOk bets.length winners) ∧ d = PyData.none
set_option maxHeartbeats 4000000 in
theorem ok_check_winners {P : Program} {w : World} {K : PySem.W.Frag} {mg : Str → Option Value} {base : Heap} (B : Gb K mg) (F : Fd K mg "check_winners" s_check_winners) (C_is_integer : Cl P w K mg base 1 "is_integer" ["value"] (SpP K R_is_integer)) : Cl P w K mg base 2 "check_winners" ["bets", "winners"] (SpP K R_check_winners) := by
  have BG := B
  obtain ⟨f, fd, F, hm⟩ := F.ex
  refine ⟨f, fd, fnG_of (k := 1) F sc_check_winners (spP_len fun ds d h => ?_) (fun cdv A outer s H hr hgd => ⟨_, (pss_cons (ps_if (PW.pt (pw_or (pt_not (pt_truth (pe_callB (r := rIsi K) call_isi (by rfl) B.isinstance_ boot_isinstance (pa_cons (pv 1) (pa_cons (pe_bltn (v := .ty "tuple") (u := .type "tuple") (by rfl) B.tuple_ PyProof.Rows.boot_tuple rfl) pa_nil))) (fun _ => rfl))) (pw_or (pt_not (pt_truth (pv 1) (fun _ => rfl))) (pw_or1 (pt_not (pt_truth (pe_callB (r := rAll K) (cr_all rfl) (by rfl) B.all_ (by decide +kernel) (pa_cons (pe_lc (own := [("one", 2)]) (g := _) (tt := tYes) rfl sc_check_winners.nd (pi_tup (pv 1)) (blkOk_by (N := N_check_winners) (sc := defScope s_check_winners) (by decide +kernel)) (fun _ _ _ _ _ => (pg_name (i := 2) sc_check_winners.nd rfl (by first | exact Or.inl rfl | exact Or.inr rfl))) (fun _ _ _ _ _ => pts_nil) (fun _ _ _ _ _ => (pe_cl C_is_integer (hr.mono (by decide)) hgd (by rfl) (pa_cons (pv 2) pa_nil)))) pa_nil)) (fun _ => rfl))))))) pss_never pss_nil) (pss_cons (ps_if (pt_not (pt_truth (pe_callB (r := rAll K) (cr_all rfl) (by rfl) B.all_ (by decide +kernel) (pa_cons (pe_lc (own := [("one", 2)]) (g := _) (tt := tYes) rfl sc_check_winners.nd (pi_tup (pv 1)) (blkOk_by (N := N_check_winners) (sc := defScope s_check_winners) (by decide +kernel)) (fun _ _ _ _ _ => (pg_name (i := 2) sc_check_winners.nd rfl (by first | exact Or.inl rfl | exact Or.inr rfl))) (fun _ _ _ _ _ => pts_nil) (fun _ _ _ _ _ => (pe_chain op_le op_lt pe_int (pv 2) (pe_callB (r := rLenS K) call_len_seq (by rfl) B.len_ PySem.boot_len (pa_cons (pv 0) pa_nil))))) pa_nil)) (fun _ => rfl))) pss_never pss_nil) (pss_one (ps_if (pt_not (pt_truth (pe_callB (r := rAll K) (cr_all rfl) (by rfl) B.all_ (by decide +kernel) (pa_cons (pe_lc (own := [("at", 3)]) (g := _) (tt := tYes) rfl sc_check_winners.nd (pi_range1 (by rfl) B.range_ (pa_cons (pe_op op_sub (pe_callB (r := rLenS K) call_len_seq (by rfl) B.len_ PySem.boot_len (pa_cons (pv 1) pa_nil)) pe_int) pa_nil)) (blkOk_by (N := N_check_winners) (sc := defScope s_check_winners) (by decide +kernel)) (fun _ _ _ _ _ => (pg_name (i := 3) sc_check_winners.nd rfl (by first | exact Or.inl rfl | exact Or.inr rfl))) (fun _ _ _ _ _ => pts_nil) (fun _ _ _ _ _ => (pe_cmpR op_lt (pe_ix (r := rIxT K) ix_tup (pv 1) (pv 3) (fun _ _ => rfl)) (pe_ix (r := rIxT K) ix_tup (pv 1) (pe_op op_add (pv 3) pe_int) (fun _ _ => rfl)) (nomark _)))) pa_nil)) (fun _ => rfl))) pss_never pss_nil)))), fun vs Q => fn_pure (N := N_check_winners) (fun ds d h => ?_) (fun B S ds d h D hR hN => ?_) vs H Q E0⟩), hm, F.kp, F.binds fun _ _ _ _ _ _ us hl => match us, hl with | [_, _], _ => rfl⟩
  · obtain ⟨bets, winners, rfl, h0, h1, rfl⟩ := h; rfl
  · obtain ⟨bets, winners, rfl, h0, h1, rfl⟩ := h; simp
  · obtain ⟨bets, winners, rfl, h0, h1, rfl⟩ := h
    have hl1 := h0.1
    have hl2 := h0.2.1
    have hwl := win_len h1.2.1 h1.2.2
    show Ss _ _ [.da ((eT PyData.int) bets), .da ((eT PyData.int) winners), .no, .no] _ _
    refine s_seq (s_skip (et_or (et_not (et_truB (ed_isi (ed_var rfl) (show kitB "tuple" "tuple" = some true by decide +kernel)))) (fun hb3 => (et_or (et_not (et_truT (ed_var rfl))) (fun hb2 => (et_not (et_truB (ed_all (ed_L (el_lcAX (xs := winners) (ea := fun x => Itm.hard (PyData.int x)) (enc := PyData.bool) (fb := fun (x1 : Int) => (isIntD ((PyData.int x1)))) (ei_tupX (ed_var rfl)) (by first | omega | (simp; omega)) (by simp) (fun _ _ x1 hx1 => ⟨_, rfl, (eg_name (by simp)), (ed_call (ds := [(PyData.int x1)]) (ea_cons (ed_var rfl) ea_nil) ⟨(PyData.int x1), rfl, rfl⟩)⟩)))))))))) (by rw [all_id (fun _ _ => by simp [isIntD, isi_int, isi_bool])]; have := h1.1; simp; exact this : ((!true) || ((!(!(winners).isEmpty)) || (!((((winners).map fun (x1 : Int) => (isIntD ((PyData.int x1))))).all id)))) = false) ?_)
    refine s_seq (s_skip (et_not (et_truB (ed_all (ed_L (el_lcAX (xs := winners) (ea := fun x => Itm.hard (PyData.int x)) (enc := PyData.bool) (fb := fun (x4 : Int) => (decide ((0 : Int) ≤ x4) && decide (x4 < ((bets).length : Int)))) (ei_tupX (ed_var rfl)) (by first | omega | (simp; omega)) (by simp) (fun _ _ x4 hx4 => ⟨_, rfl, (eg_name (by simp)), (ed_chain ed_int (ed_var rfl) (fun hb5 => (ed_lenTX (ed_var rfl))))⟩)))))) (by rw [all_id (fun x hx => by have := h1.2.2 x hx; simp; omega)]; rfl : (!((((winners).map fun (x4 : Int) => (decide ((0 : Int) ≤ x4) && decide (x4 < ((bets).length : Int))))).all id)) = false) ?_)
    refine (s_skip (et_not (et_truB (ed_all (ed_L (el_lcAX (xs := (List.range ((((winners).length : Int) - (1 : Int))).toNat)) (ea := fun (i : Nat) => Itm.hard (PyData.int (i : Int))) (enc := PyData.bool) (fb := fun (x6 : Nat) => (decide ((ixG winners (x6 : Int)) < (ixG winners ((x6 : Int) + (1 : Int)))))) (ei_rng (ed_I0 (ed_lenTX (ed_var rfl)) ed_int) (by omega)) (by first | omega | (simp; omega)) (by simp) (fun _ _ x6 hx6 => ⟨_, rfl, (eg_name (by simp)), (ed_B0 (ed_ixTX (f := PyData.int) (l := winners) (ed_var rfl) (ed_var rfl) (by exact inb (by have := List.mem_range.mp (by assumption); omega))) (ed_ixTX (f := PyData.int) (l := winners) (ed_var rfl) (ed_I0 (ed_var rfl) ed_int) (by exact inb (by have := List.mem_range.mp (by assumption); omega))))⟩)))))) (by rw [all_id (fun x hx => by have hq := List.mem_range.mp hx; exact decide_eq_true (asc_ix h1.2.1 (ixG_some (i := (x : Int)) (by omega)) (ixG_some (i := (x : Int) + 1) (by omega)) (by omega)))]; rfl : (!(((((List.range ((((winners).length : Int) - (1 : Int))).toNat)).map fun (x6 : Nat) => (decide ((ixG winners (x6 : Int)) < (ixG winners ((x6 : Int) + (1 : Int))))))).all id)) = false) ?_)
    exact hN rfl _ _

/-! ### net_pool -/
abbrev s_net_pool : Stmt := topS 41
abbrev N_net_pool : List Str := ["bets", "kept"]
theorem sc_net_pool : FnScope N_net_pool ["bets", "kept"] (defScope s_net_pool) := ⟨rfl, rfl, rfl, by decide +kernel, rfl, by decide +kernel, by decide +kernel⟩
def R_net_pool : List PyData → PyData → Prop := fun ds d => ∃ (bets : (List Int)) (kept : Rat), ds = [((eT PyData.int) bets), (eQ kept)] ∧ (bets.length ≤ 20 ∧ 0 ≤ bets.sum ∧ bets.sum ≤ 1000000000) ∧ (KeptOk kept) ∧ d = (PyData.int (netP bets kept))
set_option maxHeartbeats 4000000 in
theorem ok_net_pool {P : Program} {w : World} {K : PySem.W.Frag} {mg : Str → Option Value} {base : Heap} (B : Gb K mg) (F : Fd K mg "net_pool" s_net_pool) : Cl P w K mg base 1 "net_pool" ["bets", "kept"] (SpP K R_net_pool) := by
  have BG := B
  obtain ⟨f, fd, F, hm⟩ := F.ex
  refine ⟨f, fd, fnG_of (k := 0) F sc_net_pool (spP_len fun ds d h => ?_) (fun cdv A outer s H hr hgd => ⟨_, (pss_one (ps_ret (pe_op op_fdivG (pe_op op_mulG (pe_callB (r := rSumT K) (cr_sumT rfl) (by rfl) B.sum_ (by decide +kernel) (pa_cons (pv 0) pa_nil)) (pe_op op_sub (pe_ix (r := rIxT K) ix_tup (pv 1) pe_int (fun _ _ => rfl)) (pe_ix (r := rIxT K) ix_tup (pv 1) pe_int (fun _ _ => rfl)))) (pe_ix (r := rIxT K) ix_tup (pv 1) pe_int (fun _ _ => rfl))))), fun vs Q => fn_pure (N := N_net_pool) (fun ds d h => ?_) (fun B S ds d h D hR hN => ?_) vs H Q E0⟩), hm, F.kp, F.binds fun _ _ _ _ _ _ us hl => match us, hl with | [_, _], _ => rfl⟩
  · obtain ⟨bets, kept, rfl, h0, h1, rfl⟩ := h; rfl
  · obtain ⟨bets, kept, rfl, h0, h1, rfl⟩ := h; simp
  · obtain ⟨bets, kept, rfl, h0, h1, rfl⟩ := h
    have hk := kept_rng h1
    show Ss _ _ [.da ((eT PyData.int) bets), .da (eQ kept)] _ _
    exact s_ret (ed_is (ed_I (ed_I (ed_sumT (ed_var rfl)) (ed_I0 (ed_ixT (ed_var rfl) ed_int rfl) (ed_ixT (ed_var rfl) ed_int rfl)) (by exact mul_l (by omega) (by omega))) (ed_ixT (ed_var rfl) ed_int rfl) (by exact div_b (by omega) (small_lt (by omega)))) (by rfl : (PyData.int (((bets).sum * (((kept).den : Int) - (kept).num)) / ((kept).den : Int))) = (PyData.int (netP bets kept)))) hR

/-! ### dividend -/
abbrev s_dividend : Stmt := topS 42
abbrev N_dividend : List Str := ["share", "bet", "step"]
theorem sc_dividend : FnScope N_dividend ["share", "bet", "step"] (defScope s_dividend) := ⟨rfl, rfl, rfl, by decide +kernel, rfl, by decide +kernel, by decide +kernel⟩
def R_dividend : List PyData → PyData → Prop := fun ds d => ∃ (share : Int) (bet : Int) (step : Int), ds = [(PyData.int share), (PyData.int bet), (PyData.int step)] ∧ (1 ≤ bet ∧ bet ≤ 1000000000) ∧ (1 ≤ step ∧ step ≤ 1000) ∧ d = (PyData.int (divF share bet step))
set_option maxHeartbeats 4000000 in
theorem ok_dividend {P : Program} {w : World} {K : PySem.W.Frag} {mg : Str → Option Value} {base : Heap} (B : Gb K mg) (F : Fd K mg "dividend" s_dividend) : Cl P w K mg base 1 "dividend" ["share", "bet", "step"] (SpP K R_dividend) := by
  have BG := B
  obtain ⟨f, fd, F, hm⟩ := F.ex
  refine ⟨f, fd, fnG_of (k := 0) F sc_dividend (spP_len fun ds d h => ?_) (fun cdv A outer s H hr hgd => ⟨_, (pss_one (ps_ret (pe_op op_mulG (pe_op op_fdivG (pe_op op_fdivG (pe_op op_mulG (pv 0) pe_int) (pv 1)) (pv 2)) (pv 2)))), fun vs Q => fn_pure (N := N_dividend) (fun ds d h => ?_) (fun B S ds d h D hR hN => ?_) vs H Q E0⟩), hm, F.kp, F.binds fun _ _ _ _ _ _ us hl => match us, hl with | [_, _, _], _ => rfl⟩
  · obtain ⟨share, bet, step, rfl, h0, h1, rfl⟩ := h; rfl
  · obtain ⟨share, bet, step, rfl, h0, h1, rfl⟩ := h; simp
  · obtain ⟨share, bet, step, rfl, h0, h1, rfl⟩ := h
    show Ss _ _ [.da (PyData.int share), .da (PyData.int bet), .da (PyData.int step)] _ _
    exact s_ret (ed_is (ed_I (ed_I (ed_I (ed_I (ed_var rfl) ed_int (by exact mul_r (by omega) (by omega))) (ed_var rfl) (by exact div_b (by omega) (small_lt (by omega)))) (ed_var rfl) (by exact div_b (by omega) (small_lt (by omega)))) (ed_var rfl) (by exact mul_r (by omega) (by omega))) (by rfl : (PyData.int ((((share * (100 : Int)) / bet) / step) * step)) = (PyData.int (divF share bet step)))) hR

/-! ### win_dividends -/
abbrev s_win_dividends : Stmt := topS 43
abbrev N_win_dividends : List Str := ["bets", "kept", "step", "winners", "backed", "one", "own", "gain", "found"]
theorem sc_win_dividends : FnScope N_win_dividends ["bets", "kept", "step", "winners"] (defScope s_win_dividends) := ⟨rfl, rfl, rfl, by decide +kernel, rfl, by decide +kernel, by decide +kernel⟩
def R_win_dividends : List PyData → PyData → Prop := fun ds d => ∃ (bets : (List Int)) (kept : Rat) (step : Int) (winners : (List Int)), ds = [((eT PyData.int) bets), (eQ kept), (PyData.int step), ((eT PyData.int) winners)] ∧ (PoolOk bets) ∧ (KeptOk kept) ∧ (1 ≤ step ∧ step ≤ 1000) ∧ (WinOk bets.length winners) ∧ d = ((eO (eT (eO PyData.int))) (winF bets kept step winners))
set_option maxHeartbeats 4000000 in
theorem ok_win_dividends {P : Program} {w : World} {K : PySem.W.Frag} {mg : Str → Option Value} {base : Heap} (B : Gb K mg) (F : Fd K mg "win_dividends" s_win_dividends) (C_check_pool : Cl P w K mg base 2 "check_pool" ["bets"] (SpP K R_check_pool)) (C_check_terms : Cl P w K mg base 4 "check_terms" ["kept", "step"] (SpP K R_check_terms)) (C_check_winners : Cl P w K mg base 2 "check_winners" ["bets", "winners"] (SpP K R_check_winners)) (C_dividend : Cl P w K mg base 1 "dividend" ["share", "bet", "step"] (SpP K R_dividend)) (C_net_pool : Cl P w K mg base 1 "net_pool" ["bets", "kept"] (SpP K R_net_pool)) : Cl P w K mg base 5 "win_dividends" ["bets", "kept", "step", "winners"] (SpP K R_win_dividends) := by
  have BG := B
  obtain ⟨f, fd, F, hm⟩ := F.ex
  refine ⟨f, fd, fnG_of (k := 4) F sc_win_dividends (spP_len fun ds d h => ?_) (fun cdv A outer s H hr hgd => ⟨_, (pss_cons (ps_expr (pe_cl C_check_pool (hr.mono (by decide)) hgd (by rfl) (pa_cons (pv 0) pa_nil))) (pss_cons (ps_expr (pe_cl C_check_terms (hr.mono (by decide)) hgd (by rfl) (pa_cons (pv 1) (pa_cons (pv 2) pa_nil)))) (pss_cons (ps_expr (pe_cl C_check_winners (hr.mono (by decide)) hgd (by rfl) (pa_cons (pv 0) (pa_cons (pv 3) pa_nil)))) (pss_cons (ps_setLc (i := 4) (own := [("one", 5)]) (g := _) (tt := _) rfl sc_win_dividends.nd rfl rfl (sw_true rfl rfl rfl (by decide +kernel)) (pi_tup (pv 3)) (blkOk_by (N := N_win_dividends) (sc := defScope s_win_dividends) (by decide +kernel)) (fun _ _ _ _ _ => (pg_name (i := 5) sc_win_dividends.nd rfl (by first | exact Or.inl rfl | exact Or.inr rfl))) (fun _ _ _ _ _ => (pts_one (pt_cmpR op_gt (pe_ix (r := rIxT K) ix_tup (pv 0) (pv 5) (fun _ _ => rfl)) pe_int (nomark _)))) (fun _ _ _ _ _ => (pv 5))) (pss_cons (ps_if (pt_not (pt_truth (pv 4) (fun _ => rfl))) (pss_one (ps_ret pe_non)) pss_nil) (pss_cons (ps_set (i := 6) sc_win_dividends.nd rfl (Or.inl rfl) (pe_callB (r := rSumT K) (cr_sumT rfl) (by rfl) B.sum_ (by decide +kernel) (pa_cons (pe_lc (own := [("one", 5)]) (g := _) (tt := tYes) rfl sc_win_dividends.nd (pi_list (pv 4)) (blkOk_by (N := N_win_dividends) (sc := defScope s_win_dividends) (by decide +kernel)) (fun _ _ _ _ _ => (pg_name (i := 5) sc_win_dividends.nd rfl (by first | exact Or.inl rfl | exact Or.inr rfl))) (fun _ _ _ _ _ => pts_nil) (fun _ _ _ _ _ => (pe_ix (r := rIxT K) ix_tup (pv 0) (pv 5) (fun _ _ => rfl)))) pa_nil))) (pss_cons (ps_set (i := 7) sc_win_dividends.nd rfl (Or.inl rfl) (pe_op op_sub (pe_cl C_net_pool (hr.mono (by decide)) hgd (by rfl) (pa_cons (pv 0) (pa_cons (pv 1) pa_nil))) (pv 6))) (pss_cons (ps_set (i := 8) sc_win_dividends.nd rfl (Or.inl rfl) (pe_lst pa_nil)) (pss_cons (ps_for PassesOwn.never rfl (pi_tup (pv 3)) (pg_name (i := 5) sc_win_dividends.nd rfl (Or.inl rfl)) (pss_one (ps_if (pt_cmpR (r := rEqD K) (op_eqD hr.units) (pe_ix (r := rIxT K) ix_tup (pv 0) (pv 5) (fun _ _ => rfl)) pe_int (nomark _)) (pss_one (ps_expr (pe_bm PySem.F.plainAttrs_list PySem.F.slot_list_append PySem.F.type_list_append mt_append (pv 8) (pa_cons pe_non pa_nil)))) (pss_one (ps_if (pt_cmpR op_le (pv 7) pe_int (nomark _)) (pss_one (ps_expr (pe_bm PySem.F.plainAttrs_list PySem.F.slot_list_append PySem.F.type_list_append mt_append (pv 8) (pa_cons (pe_callB (call_max2 rfl) (by rfl) B.max_ (by decide +kernel) (pa_cons pe_int (pa_cons (pe_cl C_dividend (hr.mono (by decide)) hgd (by rfl) (pa_cons (pe_op op_fdivG (pe_op op_mulG (pe_ix (r := rIxT K) ix_tup (pv 0) (pv 5) (fun _ _ => rfl)) (pe_cl C_net_pool (hr.mono (by decide)) hgd (by rfl) (pa_cons (pv 0) (pa_cons (pv 1) pa_nil)))) (pv 6)) (pa_cons (pe_ix (r := rIxT K) ix_tup (pv 0) (pv 5) (fun _ _ => rfl)) (pa_cons (pv 2) pa_nil)))) pa_nil))) pa_nil)))) (pss_one (ps_expr (pe_bm PySem.F.plainAttrs_list PySem.F.slot_list_append PySem.F.type_list_append mt_append (pv 8) (pa_cons (pe_cl C_dividend (hr.mono (by decide)) hgd (by rfl) (pa_cons (pe_op op_add (pe_ix (r := rIxT K) ix_tup (pv 0) (pv 5) (fun _ _ => rfl)) (pe_op op_fdivG (pv 7) (pe_callB (r := rLenS K) call_len_seq (by rfl) B.len_ PySem.boot_len (pa_cons (pv 4) pa_nil)))) (pa_cons (pe_ix (r := rIxT K) ix_tup (pv 0) (pv 5) (fun _ _ => rfl)) (pa_cons (pv 2) pa_nil)))) pa_nil))))))))) (pss_one (ps_ret (pe_callTy (r := rTupOf K) call_tupleF (by rfl) B.tuple_ PyProof.Rows.boot_tuple (pa_cons (pv 8) pa_nil))))))))))))), fun vs Q => fn_pure (N := N_win_dividends) (fun ds d h => ?_) (fun B S ds d h D hR hN => ?_) vs H Q E0⟩), hm, F.kp, F.binds fun _ _ _ _ _ _ us hl => match us, hl with | [_, _, _, _], _ => rfl⟩
  · obtain ⟨bets, kept, step, winners, rfl, h0, h1, h2, h3, rfl⟩ := h; rfl
  · obtain ⟨bets, kept, step, winners, rfl, h0, h1, h2, h3, rfl⟩ := h; simp
  · obtain ⟨bets, kept, step, winners, rfl, h0, h1, h2, h3, rfl⟩ := h
    have hl1 := h0.1
    have hl2 := h0.2.1
    have hps := pool_sum h0
    have hwl := win_len h3.2.1 h3.2.2
    have hnl := net_le hps.1 h1
    have how := own_le h0 h3.2.2 (by omega)
    have hbl : (backedF bets winners).length ≤ winners.length := List.length_filter_le ..
    show Ss _ _ [.da ((eT PyData.int) bets), .da (eQ kept), .da (PyData.int step), .da ((eT PyData.int) winners), .no, .no, .no, .no, .no] _ _
    refine s_seq (s_drop (ed_call (ds := [((eT PyData.int) bets)]) (ea_cons (ed_var rfl) ea_nil) ⟨bets, rfl, by assumption, rfl⟩) ?_)
    refine s_seq (s_drop (ed_call (ds := [(eQ kept), (PyData.int step)]) (ea_cons (ed_var rfl) (ea_cons (ed_var rfl) ea_nil)) ⟨kept, step, rfl, by assumption, by assumption, rfl⟩) ?_)
    refine s_seq (s_drop (ed_call (ds := [((eT PyData.int) bets), ((eT PyData.int) winners)]) (ea_cons (ed_var rfl) (ea_cons (ed_var rfl) ea_nil)) ⟨bets, winners, rfl, by assumption, by assumption, rfl⟩) ?_)
    refine s_seq (s_asg (ed_is (ed_L (el_lcPX (xs := winners) (ea := fun x => Itm.hard (PyData.int x)) (p := fun (x1 : Int) => (decide ((0 : Int) < (ixG bets x1)))) (enc := PyData.int) (fb := fun (x1 : Int) => x1) (ei_tupX (ed_var rfl)) (by omega) (by simp) (fun _ _ x1 hx1 => ⟨_, rfl, (eg_name (by simp)), (et_test (ed_B0 (ed_ixTX (f := PyData.int) (l := bets) (ed_var rfl) (ed_var rfl) (by exact inb (h3.2.2 _ (by assumption)))) ed_int)), fun hp2 => (ed_var rfl)⟩))) (by exact congrArg (eL PyData.int) (List.map_id _) : _ = ((eL PyData.int) (backedF bets winners)))) (s_le (ρ1 := [.da ((eT PyData.int) bets), .da (eQ kept), .da (PyData.int step), .da ((eT PyData.int) winners), .da ((eL PyData.int) (backedF bets winners)), .no, .no, .no, .no]) (le_rfl rfl) ?_))
    refine s_seq (s_if (b := (!(!((backedF bets winners)).isEmpty))) (et_not (et_truL (ed_var rfl))) (fun hc0 => ?_) (fun hc0 => ?_))
    · exact s_ret (ed_is (ed_is ed_non (rfl : _ = ((eO (eT (eO PyData.int))) (none : (Option (List (Option Int))))))) (by exact congrArg (eO (eT (eO PyData.int))) (win_no hc0) : ((eO (eT (eO PyData.int))) (none : (Option (List (Option Int))))) = ((eO (eT (eO PyData.int))) (winF bets kept step winners)))) hR
    · refine s_next ?_
      refine s_seq (s_asg (ed_is (ed_sumL (ed_L (el_lcAX (xs := (backedF bets winners)) (ea := fun x => Itm.hard (PyData.int x)) (enc := PyData.int) (fb := fun (x3 : Int) => (ixG bets x3)) (ei_listX (ed_var rfl)) (by omega) (by simp) (fun _ _ x3 hx3 => ⟨_, rfl, (eg_name (by simp)), (ed_ixTX (f := PyData.int) (l := bets) (ed_var rfl) (ed_var rfl) (by exact inb (h3.2.2 _ (back_in (by assumption)))))⟩)))) (by rfl : _ = (PyData.int (ownF bets winners)))) (s_le (ρ1 := [.da ((eT PyData.int) bets), .da (eQ kept), .da (PyData.int step), .da ((eT PyData.int) winners), .da ((eL PyData.int) (backedF bets winners)), .no, .da (PyData.int (ownF bets winners)), .no, .no]) (le_rfl rfl) ?_))
      refine s_seq (s_asg (ed_I0 (ed_call (ds := [((eT PyData.int) bets), (eQ kept)]) (ea_cons (ed_var rfl) (ea_cons (ed_var rfl) ea_nil)) ⟨bets, kept, rfl, by omega, by assumption, rfl⟩) (ed_var rfl)) (s_le (ρ1 := [.da ((eT PyData.int) bets), .da (eQ kept), .da (PyData.int step), .da ((eT PyData.int) winners), .da ((eL PyData.int) (backedF bets winners)), .no, .da (PyData.int (ownF bets winners)), .da (PyData.int ((netP (bets) (kept)) - (ownF bets winners))), .no]) (le_rfl rfl) ?_))
      refine s_seq (s_asgM (ds := ([]).map (eO PyData.int)) (el_lst (ds := [].map (eO PyData.int)) ea_nil) (fun p_found4 => s_le (ρ1 := [.da ((eT PyData.int) bets), .da (eQ kept), .da (PyData.int step), .da ((eT PyData.int) winners), .da ((eL PyData.int) (backedF bets winners)), .no, .da (PyData.int (ownF bets winners)), .da (PyData.int ((netP (bets) (kept)) - (ownF bets winners))), .mu true p_found4 (.lst ([].map (eO PyData.int)))]) (le_rfl rfl) ?_))
      refine s_seq (s_forX (winners) (fun x => Itm.hard (PyData.int x)) (ei_tupX (ed_var rfl)) (fun i0 => [.da ((eT PyData.int) bets), .da (eQ kept), .da (PyData.int step), .da ((eT PyData.int) winners), .da ((eL PyData.int) (backedF bets winners)), .no, .da (PyData.int (ownF bets winners)), .da (PyData.int ((netP (bets) (kept)) - (ownF bets winners))), .mu true p_found4 (.lst (((winners.take (i0)).map (shareF bets kept step winners)).map (eO PyData.int)))]) (le_same (le_same (le_same (le_same (le_same (le_no (le_same (le_same (le_mu (congrArg MO.lst (by rfl)) le_nil))))))))) (fun T0 hT0 i0 x0 hx0 => ⟨_, [5], (eg_name (by simp)), ?_⟩) ?_)
      · show Ss _ _ [.da ((eT PyData.int) bets), .da (eQ kept), .da (PyData.int step), .da ((eT PyData.int) winners), .da ((eL PyData.int) (backedF bets winners)), .da (PyData.int x0), .da (PyData.int (ownF bets winners)), .da (PyData.int ((netP (bets) (kept)) - (ownF bets winners))), .mu true p_found4 (.lst (((winners.take (i0)).map (shareF bets kept step winners)).map (eO PyData.int)))] _ _
        have hwx := h3.2.2 _ (List.mem_of_getElem? hx0)
        have hbx := bet_at h0 hwx
        have hne := back_ne hc0
        have hopos := own_pos hne
        have hbp := back_pos hne
        have hi0 := (List.getElem?_eq_some_iff.mp hx0).1
        refine (s_if (b := (decide ((ixG bets x0) = (0 : Int)))) (et_test (ed_eqI (ed_ixTX (f := PyData.int) (l := bets) (ed_var rfl) (ed_var rfl) (by exact inb hwx)) ed_int)) (fun hc1 => ?_) (fun hc1 => ?_))
        · refine (s_append (ed_is ed_non (rfl : _ = ((eO PyData.int) (none : (Option Int))))) ⟨_, _, rfl⟩ rfl (by rw [List.length_map, List.length_map, List.length_take]; omega) (s_le (ρ1 := [.da ((eT PyData.int) bets), .da (eQ kept), .da (PyData.int step), .da ((eT PyData.int) winners), .da ((eL PyData.int) (backedF bets winners)), .da (PyData.int x0), .da (PyData.int (ownF bets winners)), .da (PyData.int ((netP (bets) (kept)) - (ownF bets winners))), .mu true p_found4 (.lst ((((winners.take (i0)).map (shareF bets kept step winners)) ++ [(none : (Option Int))]).map (eO PyData.int)))]) (le_same (le_same (le_same (le_same (le_same (le_same (le_same (le_same (le_mu (congrArg MO.lst (by simp)) le_nil))))))))) ?_))
          exact s_end (le_same (le_same (le_same (le_same (le_same (le_no (le_same (le_same (le_mu (congrArg MO.lst (by first | exact congrArg (List.map (eO PyData.int)) (share_a hx0 (by assumption)) | exact congrArg (List.map (eO PyData.int)) (share_b hx0 (by assumption) (by assumption)) | exact congrArg (List.map (eO PyData.int)) (share_c hx0 (by assumption) (by assumption)))) le_nil)))))))))
        · refine (s_if (b := (decide (((netP (bets) (kept)) - (ownF bets winners)) ≤ (0 : Int)))) (et_test (ed_B0 (ed_var rfl) ed_int)) (fun hc2 => ?_) (fun hc2 => ?_))
          · refine (s_append (ed_is (ed_max2 ed_int (ed_call (ds := [(PyData.int (((ixG bets x0) * (netP (bets) (kept))) / (ownF bets winners))), (PyData.int (ixG bets x0)), (PyData.int step)]) (ea_cons (ed_I (ed_I (ed_ixTX (f := PyData.int) (l := bets) (ed_var rfl) (ed_var rfl) (by exact inb hwx)) (ed_call (ds := [((eT PyData.int) bets), (eQ kept)]) (ea_cons (ed_var rfl) (ea_cons (ed_var rfl) ea_nil)) ⟨bets, kept, rfl, by omega, by assumption, rfl⟩) (by first | assumption | exact mul_l (by omega) (by omega) | exact mul_r (by omega) (by omega))) (ed_var rfl) (by exact div_small (by omega) (by omega))) (ea_cons (ed_ixTX (f := PyData.int) (l := bets) (ed_var rfl) (ed_var rfl) (by exact inb hwx)) (ea_cons (ed_var rfl) ea_nil))) ⟨(((ixG bets x0) * (netP (bets) (kept))) / (ownF bets winners)), (ixG bets x0), step, rfl, by exact bet_pos hbx (by assumption), by assumption, rfl⟩)) (rfl : _ = ((eO PyData.int) (some (if (divF ((((ixG bets x0) * (netP (bets) (kept))) / (ownF bets winners))) ((ixG bets x0)) (step)) > (0 : Int) then (divF ((((ixG bets x0) * (netP (bets) (kept))) / (ownF bets winners))) ((ixG bets x0)) (step)) else (0 : Int)))))) ⟨_, _, rfl⟩ rfl (by rw [List.length_map, List.length_map, List.length_take]; omega) (s_le (ρ1 := [.da ((eT PyData.int) bets), .da (eQ kept), .da (PyData.int step), .da ((eT PyData.int) winners), .da ((eL PyData.int) (backedF bets winners)), .da (PyData.int x0), .da (PyData.int (ownF bets winners)), .da (PyData.int ((netP (bets) (kept)) - (ownF bets winners))), .mu true p_found4 (.lst ((((winners.take (i0)).map (shareF bets kept step winners)) ++ [(some (if (divF ((((ixG bets x0) * (netP (bets) (kept))) / (ownF bets winners))) ((ixG bets x0)) (step)) > (0 : Int) then (divF ((((ixG bets x0) * (netP (bets) (kept))) / (ownF bets winners))) ((ixG bets x0)) (step)) else (0 : Int)))]).map (eO PyData.int)))]) (le_same (le_same (le_same (le_same (le_same (le_same (le_same (le_same (le_mu (congrArg MO.lst (by simp)) le_nil))))))))) ?_))
            exact s_end (le_same (le_same (le_same (le_same (le_same (le_no (le_same (le_same (le_mu (congrArg MO.lst (by first | exact congrArg (List.map (eO PyData.int)) (share_a hx0 (by assumption)) | exact congrArg (List.map (eO PyData.int)) (share_b hx0 (by assumption) (by assumption)) | exact congrArg (List.map (eO PyData.int)) (share_c hx0 (by assumption) (by assumption)))) le_nil)))))))))
          · refine (s_append (ed_is (ed_call (ds := [(PyData.int ((ixG bets x0) + (((netP (bets) (kept)) - (ownF bets winners)) / (((backedF bets winners)).length : Int)))), (PyData.int (ixG bets x0)), (PyData.int step)]) (ea_cons (ed_I0 (ed_ixTX (f := PyData.int) (l := bets) (ed_var rfl) (ed_var rfl) (by exact inb hwx)) (ed_I (ed_var rfl) (ed_lenLX (ed_var rfl)) (by exact div_small (by omega) (by omega)))) (ea_cons (ed_ixTX (f := PyData.int) (l := bets) (ed_var rfl) (ed_var rfl) (by exact inb hwx)) (ea_cons (ed_var rfl) ea_nil))) ⟨((ixG bets x0) + (((netP (bets) (kept)) - (ownF bets winners)) / (((backedF bets winners)).length : Int))), (ixG bets x0), step, rfl, by exact bet_pos hbx (by assumption), by assumption, rfl⟩) (rfl : _ = ((eO PyData.int) (some (divF (((ixG bets x0) + (((netP (bets) (kept)) - (ownF bets winners)) / (((backedF bets winners)).length : Int)))) ((ixG bets x0)) (step)))))) ⟨_, _, rfl⟩ rfl (by rw [List.length_map, List.length_map, List.length_take]; omega) (s_le (ρ1 := [.da ((eT PyData.int) bets), .da (eQ kept), .da (PyData.int step), .da ((eT PyData.int) winners), .da ((eL PyData.int) (backedF bets winners)), .da (PyData.int x0), .da (PyData.int (ownF bets winners)), .da (PyData.int ((netP (bets) (kept)) - (ownF bets winners))), .mu true p_found4 (.lst ((((winners.take (i0)).map (shareF bets kept step winners)) ++ [(some (divF (((ixG bets x0) + (((netP (bets) (kept)) - (ownF bets winners)) / (((backedF bets winners)).length : Int)))) ((ixG bets x0)) (step)))]).map (eO PyData.int)))]) (le_same (le_same (le_same (le_same (le_same (le_same (le_same (le_same (le_mu (congrArg MO.lst (by simp)) le_nil))))))))) ?_))
            exact s_end (le_same (le_same (le_same (le_same (le_same (le_no (le_same (le_same (le_mu (congrArg MO.lst (by first | exact congrArg (List.map (eO PyData.int)) (share_a hx0 (by assumption)) | exact congrArg (List.map (eO PyData.int)) (share_b hx0 (by assumption) (by assumption)) | exact congrArg (List.map (eO PyData.int)) (share_c hx0 (by assumption) (by assumption)))) le_nil)))))))))
      refine s_le (ρ1 := [.da ((eT PyData.int) bets), .da (eQ kept), .da (PyData.int step), .da ((eT PyData.int) winners), .da ((eL PyData.int) (backedF bets winners)), .no, .da (PyData.int (ownF bets winners)), .da (PyData.int ((netP (bets) (kept)) - (ownF bets winners))), .da ((eL (eO PyData.int)) ((winners.take ((winners).length)).map (shareF bets kept step winners)))]) (le_same (le_same (le_same (le_same (le_same (le_no (le_same (le_same (le_frz le_nil))))))))) ?_
      exact s_ret (ed_is (ed_is (ed_tupleL (ed_var rfl)) (rfl : _ = ((eO (eT (eO PyData.int))) (some ((winners.take ((winners).length)).map (shareF bets kept step winners)))))) (by rw [List.take_length]; exact congrArg (eO (eT (eO PyData.int))) (win_yes (back_ne hc0)) : ((eO (eT (eO PyData.int))) (some ((winners.take ((winners).length)).map (shareF bets kept step winners)))) = ((eO (eT (eO PyData.int))) (winF bets kept step winners)))) hR

/-! ### check_dividends -/
abbrev s_check_dividends : Stmt := topS 47
abbrev N_check_dividends : List Str := ["dividends", "one"]
theorem sc_check_dividends : FnScope N_check_dividends ["dividends"] (defScope s_check_dividends) := ⟨rfl, rfl, rfl, by decide +kernel, rfl, by decide +kernel, by decide +kernel⟩
def R_check_dividends : List PyData → PyData → Prop := fun ds d => ∃ (dividends : (List (Option Int))), ds = [((eT (eO PyData.int)) dividends)] ∧ (DivOk dividends) ∧ d = PyData.none
set_option maxHeartbeats 4000000 in
theorem ok_check_dividends {P : Program} {w : World} {K : PySem.W.Frag} {mg : Str → Option Value} {base : Heap} (B : Gb K mg) (F : Fd K mg "check_dividends" s_check_dividends) (C_is_integer : Cl P w K mg base 1 "is_integer" ["value"] (SpP K R_is_integer)) : Cl P w K mg base 2 "check_dividends" ["dividends"] (SpP K R_check_dividends) := by
  have BG := B
  obtain ⟨f, fd, F, hm⟩ := F.ex
  refine ⟨f, fd, fnG_of (k := 1) F sc_check_dividends (spP_len fun ds d h => ?_) (fun cdv A outer s H hr hgd => ⟨_, (pss_cons (ps_if (PW.pt (pw_or (pt_not (pt_truth (pe_callB (r := rIsi K) call_isi (by rfl) B.isinstance_ boot_isinstance (pa_cons (pv 0) (pa_cons (pe_bltn (v := .ty "tuple") (u := .type "tuple") (by rfl) B.tuple_ PyProof.Rows.boot_tuple rfl) pa_nil))) (fun _ => rfl))) (pw_or1 (pt_not (pt_chain op_le op_le pe_int (pe_callB (r := rLenS K) call_len_seq (by rfl) B.len_ PySem.boot_len (pa_cons (pv 0) pa_nil)) (pe_glob (v := .int 20) rfl B.c_MAX_RUNNERS.choose_spec ⟨_, rfl⟩)))))) pss_never pss_nil) (pss_one (ps_if (pt_not (pt_truth (pe_callB (r := rAll K) (cr_all rfl) (by rfl) B.all_ (by decide +kernel) (pa_cons (pe_lc (own := [("one", 1)]) (g := _) (tt := tYes) rfl sc_check_dividends.nd (pi_tup (pv 0)) (blkOk_by (N := N_check_dividends) (sc := defScope s_check_dividends) (by decide +kernel)) (fun _ _ _ _ _ => (pg_name (i := 1) sc_check_dividends.nd rfl (by first | exact Or.inl rfl | exact Or.inr rfl))) (fun _ _ _ _ _ => pts_nil) (fun _ _ _ _ _ => (pe_or (pe_cmpR op_isN (pv 1) pe_non (nomark _)) (pe_one (pe_and (pe_cl C_is_integer (hr.mono (by decide)) hgd (by rfl) (pa_cons (pv 1) pa_nil)) (pe_one (pe_chain op_le op_le pe_int (pv 1) (pe_glob (v := .int 1000000) rfl B.c_MAX_AMOUNT.choose_spec ⟨_, rfl⟩)))))))) pa_nil)) (fun _ => rfl))) pss_never pss_nil))), fun vs Q => fn_pure (N := N_check_dividends) (fun ds d h => ?_) (fun B S ds d h D hR hN => ?_) vs H Q E0⟩), hm, F.kp, F.binds fun _ _ _ _ _ _ us hl => match us, hl with | [_], _ => rfl⟩
  · obtain ⟨dividends, rfl, h0, rfl⟩ := h; rfl
  · obtain ⟨dividends, rfl, h0, rfl⟩ := h; simp
  · obtain ⟨dividends, rfl, h0, rfl⟩ := h
    have hl1 := h0.1
    have hl2 := h0.2.1
    show Ss _ _ [.da ((eT (eO PyData.int)) dividends), .no] _ _
    refine s_seq (s_skip (et_or (et_not (et_truB (ed_isi (ed_var rfl) (show kitB "tuple" "tuple" = some true by decide +kernel)))) (fun hb2 => (et_not (et_chain (ed_chain ed_int (ed_lenTX (ed_var rfl)) (fun hb1 => ed_int)))))) (by simp; omega : ((!true) || (!(decide ((1 : Int) ≤ ((dividends).length : Int)) && decide (((dividends).length : Int) ≤ (20 : Int))))) = false) ?_)
    refine (s_skip (et_not (et_truB (ed_all (ed_L (el_lcAX (xs := dividends) (ea := fun x => Itm.hard ((eO PyData.int) x)) (enc := PyData.bool) (fb := fun (x3 : (Option Int)) => ((x3).isNone || ((isIntD (((eO PyData.int) x3))) && (decide ((0 : Int) ≤ ((x3).getD default)) && decide (((x3).getD default) ≤ (1000000 : Int)))))) (ei_tupX (ed_var rfl)) (by omega) (by simp) (fun _ _ x3 hx3 => ⟨_, rfl, (eg_name (by simp)), (ed_or (ed_is (ed_isN (ed_var rfl)) (by rw [isN_eO (fun _ => rfl)] : _ = PyData.bool (x3).isNone)) (fun hb6 => (ed_and (ed_call (ds := [((eO PyData.int) x3)]) (ea_cons (ed_var rfl) ea_nil) ⟨((eO PyData.int) x3), rfl, rfl⟩) (fun hb5 => (ed_chain ed_int (ed_is (ed_var rfl) (eO_get (f := PyData.int) (by first | exact some_a (by assumption) | exact some_b (by assumption)) : _ = (PyData.int ((x3).getD default)))) (fun hb4 => ed_int))))))⟩)))))) (by rw [all_id (fun x hx => by cases x with | none => rfl | some y => (have := h0.2.2 _ hx y rfl; simp [isIntD, isi_int, isi_bool, eO]; omega))]; rfl : (!((((dividends).map fun (x3 : (Option Int)) => ((x3).isNone || ((isIntD (((eO PyData.int) x3))) && (decide ((0 : Int) ≤ ((x3).getD default)) && decide (((x3).getD default) ≤ (1000000 : Int))))))).all id)) = false) ?_)
    exact hN rfl _ _

/-! ### check_sum -/
abbrev s_check_sum : Stmt := topS 48
abbrev N_check_sum : List Str := ["money"]
theorem sc_check_sum : FnScope N_check_sum ["money"] (defScope s_check_sum) := ⟨rfl, rfl, rfl, by decide +kernel, rfl, by decide +kernel, by decide +kernel⟩
def R_check_sum : List PyData → PyData → Prop := fun ds d => ∃ (money : Int), ds = [(PyData.int money)] ∧ (1 ≤ money ∧ money ≤ 1000000) ∧ d = PyData.none
set_option maxHeartbeats 4000000 in
theorem ok_check_sum {P : Program} {w : World} {K : PySem.W.Frag} {mg : Str → Option Value} {base : Heap} (B : Gb K mg) (F : Fd K mg "check_sum" s_check_sum) (C_is_integer : Cl P w K mg base 1 "is_integer" ["value"] (SpP K R_is_integer)) : Cl P w K mg base 2 "check_sum" ["money"] (SpP K R_check_sum) := by
  have BG := B
  obtain ⟨f, fd, F, hm⟩ := F.ex
  refine ⟨f, fd, fnG_of (k := 1) F sc_check_sum (spP_len fun ds d h => ?_) (fun cdv A outer s H hr hgd => ⟨_, (pss_one (ps_if (PW.pt (pw_or (pt_not (pt_truth (pe_cl C_is_integer (hr.mono (by decide)) hgd (by rfl) (pa_cons (pv 0) pa_nil)) (fun _ => rfl))) (pw_or1 (pt_not (pt_chain op_le op_le pe_int (pv 0) (pe_glob (v := .int 1000000) rfl B.c_MAX_AMOUNT.choose_spec ⟨_, rfl⟩)))))) pss_never pss_nil)), fun vs Q => fn_pure (N := N_check_sum) (fun ds d h => ?_) (fun B S ds d h D hR hN => ?_) vs H Q E0⟩), hm, F.kp, F.binds fun _ _ _ _ _ _ us hl => match us, hl with | [_], _ => rfl⟩
  · obtain ⟨money, rfl, h0, rfl⟩ := h; rfl
  · obtain ⟨money, rfl, h0, rfl⟩ := h; simp
  · obtain ⟨money, rfl, h0, rfl⟩ := h
    show Ss _ _ [.da (PyData.int money)] _ _
    refine (s_skip (et_or (et_not (et_truB (ed_call (ds := [(PyData.int money)]) (ea_cons (ed_var rfl) ea_nil) ⟨(PyData.int money), rfl, rfl⟩))) (fun hb2 => (et_not (et_chain (ed_chain ed_int (ed_var rfl) (fun hb1 => ed_int)))))) (by simp [isIntD, isi_int, isi_bool]; omega : ((!(isIntD ((PyData.int money)))) || (!(decide ((1 : Int) ≤ money) && decide (money ≤ (1000000 : Int))))) = false) ?_)
    exact hN rfl _ _

/-! ### cover_all -/
abbrev s_cover_all : Stmt := topS 49
abbrev N_cover_all : List Str := ["dividends", "money", "one", "rows"]
theorem sc_cover_all : FnScope N_cover_all ["dividends", "money"] (defScope s_cover_all) := ⟨rfl, rfl, rfl, by decide +kernel, rfl, by decide +kernel, by decide +kernel⟩
def R_cover_all : List PyData → PyData → Prop := fun ds d => ∃ (dividends : (List (Option Int))) (money : Int), ds = [((eT (eO PyData.int)) dividends), (PyData.int money)] ∧ (DivOk dividends) ∧ (1 ≤ money ∧ money ≤ 1000000) ∧ d = ((eO (eT PyData.int)) (coverF dividends money))
set_option maxHeartbeats 4000000 in
theorem ok_cover_all {P : Program} {w : World} {K : PySem.W.Frag} {mg : Str → Option Value} {base : Heap} (B : Gb K mg) (F : Fd K mg "cover_all" s_cover_all) (C_check_dividends : Cl P w K mg base 2 "check_dividends" ["dividends"] (SpP K R_check_dividends)) (C_check_sum : Cl P w K mg base 2 "check_sum" ["money"] (SpP K R_check_sum)) : Cl P w K mg base 3 "cover_all" ["dividends", "money"] (SpP K R_cover_all) := by
  have BG := B
  obtain ⟨f, fd, F, hm⟩ := F.ex
  refine ⟨f, fd, fnG_of (k := 2) F sc_cover_all (spP_len fun ds d h => ?_) (fun cdv A outer s H hr hgd => ⟨_, (pss_cons (ps_expr (pe_cl C_check_dividends (hr.mono (by decide)) hgd (by rfl) (pa_cons (pv 0) pa_nil))) (pss_cons (ps_expr (pe_cl C_check_sum (hr.mono (by decide)) hgd (by rfl) (pa_cons (pv 1) pa_nil))) (pss_cons (ps_if (pt_truth (pe_lc (own := [("one", 2)]) (g := _) (tt := _) rfl sc_cover_all.nd (pi_tup (pv 0)) (blkOk_by (N := N_cover_all) (sc := defScope s_cover_all) (by decide +kernel)) (fun _ _ _ _ _ => (pg_name (i := 2) sc_cover_all.nd rfl (by first | exact Or.inl rfl | exact Or.inr rfl))) (fun _ _ _ _ _ => (pts_one (pt_cmpR (r := rEqD K) (op_eqD hr.units) (pv 2) pe_int (nomark _)))) (fun _ _ _ _ _ => pe_int)) (fun _ => rfl)) (pss_one (ps_ret pe_non)) pss_nil) (pss_cons (ps_setLc (i := 3) (own := [("one", 2)]) (g := _) (tt := tYes) rfl sc_cover_all.nd rfl rfl (sw_true rfl rfl rfl (by decide +kernel)) (pi_tup (pv 0)) (blkOk_by (N := N_cover_all) (sc := defScope s_cover_all) (by decide +kernel)) (fun _ _ _ _ _ => (pg_name (i := 2) sc_cover_all.nd rfl (by first | exact Or.inl rfl | exact Or.inr rfl))) (fun _ _ _ _ _ => pts_nil) (fun _ _ _ _ _ => (pe_ifExp (pt_cmpR op_isN (pv 2) pe_non (nomark _)) pe_int (pe_un un_neg (pe_op op_fdivG (pe_op op_mulG (pe_un un_neg (pv 1)) pe_int) (pv 2)))))) (pss_one (ps_ret (pe_ifExp (pt_cmpR op_lt (pe_callB (r := rSumT K) (cr_sumT rfl) (by rfl) B.sum_ (by decide +kernel) (pa_cons (pv 3) pa_nil)) (pv 1) (nomark _)) (pe_callTy (r := rTupOf K) call_tupleF (by rfl) B.tuple_ PyProof.Rows.boot_tuple (pa_cons (pv 3) pa_nil)) pe_non))))))), fun vs Q => fn_pure (N := N_cover_all) (fun ds d h => ?_) (fun B S ds d h D hR hN => ?_) vs H Q E0⟩), hm, F.kp, F.binds fun _ _ _ _ _ _ us hl => match us, hl with | [_, _], _ => rfl⟩
  · obtain ⟨dividends, money, rfl, h0, h1, rfl⟩ := h; rfl
  · obtain ⟨dividends, money, rfl, h0, h1, rfl⟩ := h; simp
  · obtain ⟨dividends, money, rfl, h0, h1, rfl⟩ := h
    have hl1 := h0.1
    have hl2 := h0.2.1
    show Ss _ _ [.da ((eT (eO PyData.int)) dividends), .da (PyData.int money), .no, .no] _ _
    refine s_seq (s_drop (ed_call (ds := [((eT (eO PyData.int)) dividends)]) (ea_cons (ed_var rfl) ea_nil) ⟨dividends, rfl, by assumption, rfl⟩) ?_)
    refine s_seq (s_drop (ed_call (ds := [(PyData.int money)]) (ea_cons (ed_var rfl) ea_nil) ⟨money, rfl, by assumption, rfl⟩) ?_)
    refine s_seq (s_if (b := (!((((dividends).filter fun (x1 : (Option Int)) => (PyData.eqv ((eO PyData.int) x1) ((eO PyData.int) (some (0 : Int))))).map fun (x1 : (Option Int)) => (1 : Int))).isEmpty)) (et_truL (ed_L (el_lcPX (xs := dividends) (ea := fun x => Itm.hard ((eO PyData.int) x)) (p := fun (x1 : (Option Int)) => (PyData.eqv ((eO PyData.int) x1) ((eO PyData.int) (some (0 : Int))))) (enc := PyData.int) (fb := fun (x1 : (Option Int)) => (1 : Int)) (ei_tupX (ed_var rfl)) (by omega) (by simp) (fun _ _ x1 hx1 => ⟨_, rfl, (eg_name (by simp)), (et_test (ed_eq (ed_var rfl) (ed_is ed_int (rfl : _ = ((eO PyData.int) (some (0 : Int))))) (by exact shaped_eO _) (by exact shaped_eO _))), fun hp2 => ed_int⟩)))) (fun hc0 => ?_) (fun hc0 => ?_))
    · exact s_ret (ed_is (ed_is ed_non (rfl : _ = ((eO (eT PyData.int)) (none : (Option (List Int)))))) (by exact congrArg (eO (eT PyData.int)) (cover_no (zeros_no hc0)) : ((eO (eT PyData.int)) (none : (Option (List Int)))) = ((eO (eT PyData.int)) (coverF dividends money)))) hR
    · refine s_next ?_
      refine s_seq (s_asg (ed_is (ed_L (el_lcAX (xs := dividends) (ea := fun x => Itm.hard ((eO PyData.int) x)) (enc := PyData.int) (fb := fun (x3 : (Option Int)) => (if (x3).isNone = true then (0 : Int) else (-(((-money) * (100 : Int)) / ((x3).getD default))))) (ei_tupX (ed_var rfl)) (by omega) (by simp) (fun _ _ x3 hx3 => ⟨_, rfl, (eg_name (by simp)), (ed_ite (e := PyData.int) (et_test (ed_is (ed_isN (ed_var rfl)) (by rw [isN_eO (fun _ => rfl)] : _ = PyData.bool (x3).isNone))) (fun hb4 => ed_int) (fun hb4 => (ed_neg (ed_I (ed_I (ed_neg (ed_var rfl)) ed_int (by first | assumption | exact mul_l (by omega) (by omega) | exact mul_r (by omega) (by omega))) (ed_is (ed_var rfl) (eO_get (f := PyData.int) (by first | exact some_a (by assumption) | exact some_b (by assumption)) : _ = (PyData.int ((x3).getD default)))) (by exact div_b (by have := opt_ne (zeros_yes hc0) (by assumption) (h0.2.2 _ (by assumption)) (some_b (by assumption)); omega) (small_lt (by have := opt_ne (zeros_yes hc0) (by assumption) (h0.2.2 _ (by assumption)) (some_b (by assumption)); omega)))))))⟩))) (by rfl : _ = ((eL PyData.int) ((dividends).map (betFor money))))) (s_le (ρ1 := [.da ((eT (eO PyData.int)) dividends), .da (PyData.int money), .no, .da ((eL PyData.int) ((dividends).map (betFor money)))]) (le_rfl rfl) ?_))
      exact s_ret (ed_is (ed_ite (e := (eO (eT PyData.int))) (et_test (ed_B0 (ed_sumL (ed_var rfl)) (ed_var rfl))) (fun hb5 => (ed_is (ed_tupleL (ed_var rfl)) (rfl : _ = ((eO (eT PyData.int)) (some ((dividends).map (betFor money))))))) (fun hb5 => (ed_is ed_non (rfl : _ = ((eO (eT PyData.int)) (none : (Option (List Int)))))))) (by exact congrArg (eO (eT PyData.int)) (cover_yes (zeros_yes hc0)) : ((eO (eT PyData.int)) (if (decide ((((dividends).map (betFor money))).sum < money)) = true then (some ((dividends).map (betFor money))) else (none : (Option (List Int))))) = ((eO (eT PyData.int)) (coverF dividends money)))) hR

/-! ### paid_out -/
abbrev s_paid_out : Stmt := topS 44
abbrev N_paid_out : List Str := ["bets", "winners", "dividends", "one", "told"]
theorem sc_paid_out : FnScope N_paid_out ["bets", "winners", "dividends"] (defScope s_paid_out) := ⟨rfl, rfl, rfl, by decide +kernel, rfl, by decide +kernel, by decide +kernel⟩
def R_paid_out : List PyData → PyData → Prop := fun ds d => ∃ (bets : (List Int)) (winners : (List Int)) (dividends : (List (Option Int))), ds = [((eT PyData.int) bets), ((eT PyData.int) winners), ((eT (eO PyData.int)) dividends)] ∧ (PoolOk bets) ∧ (WinOk bets.length winners) ∧ (dividends.length = winners.length ∧ ∀ d ∈ dividends, ∀ x, d = some x → 0 ≤ x) ∧ d = (PyData.int (paidF bets winners dividends))
set_option maxHeartbeats 4000000 in
theorem ok_paid_out {P : Program} {w : World} {K : PySem.W.Frag} {mg : Str → Option Value} {base : Heap} (B : Gb K mg) (F : Fd K mg "paid_out" s_paid_out) (C_check_pool : Cl P w K mg base 2 "check_pool" ["bets"] (SpP K R_check_pool)) (C_check_winners : Cl P w K mg base 2 "check_winners" ["bets", "winners"] (SpP K R_check_winners)) (C_is_integer : Cl P w K mg base 1 "is_integer" ["value"] (SpP K R_is_integer)) : Cl P w K mg base 3 "paid_out" ["bets", "winners", "dividends"] (SpP K R_paid_out) := by
  have BG := B
  obtain ⟨f, fd, F, hm⟩ := F.ex
  refine ⟨f, fd, fnG_of (k := 2) F sc_paid_out (spP_len fun ds d h => ?_) (fun cdv A outer s H hr hgd => ⟨_, (pss_cons (ps_expr (pe_cl C_check_pool (hr.mono (by decide)) hgd (by rfl) (pa_cons (pv 0) pa_nil))) (pss_cons (ps_expr (pe_cl C_check_winners (hr.mono (by decide)) hgd (by rfl) (pa_cons (pv 0) (pa_cons (pv 1) pa_nil)))) (pss_cons (ps_if (PW.pt (pw_or (pt_not (pt_truth (pe_callB (r := rIsi K) call_isi (by rfl) B.isinstance_ boot_isinstance (pa_cons (pv 2) (pa_cons (pe_bltn (v := .ty "tuple") (u := .type "tuple") (by rfl) B.tuple_ PyProof.Rows.boot_tuple rfl) pa_nil))) (fun _ => rfl))) (pw_or1 (pt_cmpR (r := rNeD K) (op_neD hr.units) (pe_callB (r := rLenS K) call_len_seq (by rfl) B.len_ PySem.boot_len (pa_cons (pv 2) pa_nil)) (pe_callB (r := rLenS K) call_len_seq (by rfl) B.len_ PySem.boot_len (pa_cons (pv 1) pa_nil)) (nomark _))))) pss_never pss_nil) (pss_cons (ps_for PassesOwn.never rfl (pi_tup (pv 2)) (pg_name (i := 3) sc_paid_out.nd rfl (Or.inl rfl)) (pss_one (ps_if (PW.pt (pw_and (pt_cmpR op_notN (pv 3) pe_non (nomark _)) (pw_and1 (PW.pt (pw_or (pt_not (pt_truth (pe_cl C_is_integer (hr.mono (by decide)) hgd (by rfl) (pa_cons (pv 3) pa_nil)) (fun _ => rfl))) (pw_or1 (pt_cmpR op_lt (pv 3) pe_int (nomark _)))))))) pss_never pss_nil))) (pss_one (ps_ret (pe_callB (r := rSumT K) (cr_sumT rfl) (by rfl) B.sum_ (by decide +kernel) (pa_cons (pe_lc (own := [("one", 3), ("told", 4)]) (g := _) (tt := _) rfl sc_paid_out.nd (pi_zipA (by rfl) B.zip_ (pa_cons (pv 1) (pa_cons (pv 2) pa_nil))) (blkOk_by (N := N_paid_out) (sc := defScope s_paid_out) (by decide +kernel)) (fun _ _ _ _ _ => (pg_tupB (K := K) (n := 2) rfl rfl (pgs_cons (pg_name (i := 3) sc_paid_out.nd rfl (by first | exact Or.inl rfl | exact Or.inr rfl)) (pgs_cons (pg_name (i := 4) sc_paid_out.nd rfl (by first | exact Or.inl rfl | exact Or.inr rfl)) pgs_nil)))) (fun _ _ _ _ _ => (pts_one (pt_cmpR op_notN (pv 4) pe_non (nomark _)))) (fun _ _ _ _ _ => (pe_op op_fdivG (pe_op op_mulG (pe_ix (r := rIxT K) ix_tup (pv 0) (pv 3) (fun _ _ => rfl)) (pv 4)) pe_int))) pa_nil)))))))), fun vs Q => fn_pure (N := N_paid_out) (fun ds d h => ?_) (fun B S ds d h D hR hN => ?_) vs H Q E0⟩), hm, F.kp, F.binds fun _ _ _ _ _ _ us hl => match us, hl with | [_, _, _], _ => rfl⟩
  · obtain ⟨bets, winners, dividends, rfl, h0, h1, h2, rfl⟩ := h; rfl
  · obtain ⟨bets, winners, dividends, rfl, h0, h1, h2, rfl⟩ := h; simp
  · obtain ⟨bets, winners, dividends, rfl, h0, h1, h2, rfl⟩ := h
    have hl1 := h0.1
    have hl2 := h0.2.1
    have hps := pool_sum h0
    have hwl := win_len h1.2.1 h1.2.2
    have hdl := h2.1
    show Ss _ _ [.da ((eT PyData.int) bets), .da ((eT PyData.int) winners), .da ((eT (eO PyData.int)) dividends), .no, .no] _ _
    refine s_seq (s_drop (ed_call (ds := [((eT PyData.int) bets)]) (ea_cons (ed_var rfl) ea_nil) ⟨bets, rfl, by assumption, rfl⟩) ?_)
    refine s_seq (s_drop (ed_call (ds := [((eT PyData.int) bets), ((eT PyData.int) winners)]) (ea_cons (ed_var rfl) (ea_cons (ed_var rfl) ea_nil)) ⟨bets, winners, rfl, by assumption, by assumption, rfl⟩) ?_)
    refine s_seq (s_skip (et_or (et_not (et_truB (ed_isi (ed_var rfl) (show kitB "tuple" "tuple" = some true by decide +kernel)))) (fun hb1 => (et_test (ed_neI (ed_lenTX (ed_var rfl)) (ed_lenTX (ed_var rfl)))))) (by simp; omega : ((!true) || (!decide (((dividends).length : Int) = ((winners).length : Int)))) = false) ?_)
    refine s_seq (s_forX (dividends) (fun x => Itm.hard ((eO PyData.int) x)) (ei_tupX (ed_var rfl)) (fun i0 => [.da ((eT PyData.int) bets), .da ((eT PyData.int) winners), .da ((eT (eO PyData.int)) dividends), .no, .no]) (le_same (le_same (le_same (le_no (le_no le_nil))))) (fun T0 hT0 i0 x0 hx0 => ⟨_, [3], (eg_name (by simp)), ?_⟩) ?_)
    · show Ss _ _ [.da ((eT PyData.int) bets), .da ((eT PyData.int) winners), .da ((eT (eO PyData.int)) dividends), .da ((eO PyData.int) x0), .no] _ _
      have hdx := h2.2 _ (List.mem_of_getElem? hx0)
      refine (s_skip (et_and (et_test (ed_is (ed_notN (ed_var rfl)) (by rw [isN_eO (fun _ => rfl)] : _ = PyData.bool (!(x0).isNone)))) (fun hb3 => (et_or (et_not (et_truB (ed_call (ds := [((eO PyData.int) x0)]) (ea_cons (ed_var rfl) ea_nil) ⟨((eO PyData.int) x0), rfl, rfl⟩))) (fun hb2 => (et_test (ed_B0 (ed_is (ed_var rfl) (eO_get (f := PyData.int) (by first | exact some_a (by assumption) | exact some_b (by assumption)) : _ = (PyData.int ((x0).getD default)))) ed_int)))))) (by cases x0 with | none => rfl | some x => (have := hdx x rfl; simp [isIntD, isi_int, isi_bool, eO]; omega) : ((!(x0).isNone) && ((!(isIntD (((eO PyData.int) x0)))) || (decide (((x0).getD default) < (0 : Int))))) = false) ?_)
      exact s_end (le_same (le_same (le_same (le_no (le_no le_nil)))))
    exact s_ret (ed_is (ed_sumL (ed_L (el_lcPX (xs := ((winners).zip dividends)) (ea := fun p => Itm.soft [PyData.int p.1, (eO PyData.int) p.2]) (p := fun (x4 : (Int × (Option Int))) => (!((x4).2).isNone)) (enc := PyData.int) (fb := fun (x4 : (Int × (Option Int))) => (((ixG bets (x4).1) * (((x4).2).getD default)) / (100 : Int))) (ei_zipTX (ed_var rfl) (ed_var rfl)) (by rw [List.length_zip]; omega) (by simp) (fun _ _ x4 hx4 => ⟨_, rfl, (eg_soft (egs_cons (eg_name (by simp)) (egs_cons (eg_name (by simp)) egs_nil))), (et_test (ed_is (ed_notN (ed_var rfl)) (by rw [isN_eO (fun _ => rfl)] : _ = PyData.bool (!((x4).2).isNone)))), fun hp5 => (ed_I (ed_I (ed_ixTX (f := PyData.int) (l := bets) (ed_var rfl) (ed_var rfl) (by exact inb (h1.2.2 _ (List.of_mem_zip (by assumption)).1))) (ed_is (ed_var rfl) (eO_get (f := PyData.int) (by first | exact some_a (by assumption) | exact some_b (by assumption)) : _ = (PyData.int (((x4).2).getD default)))) (by exact mul_l (by have := bet_at h0 (h1.2.2 _ (List.of_mem_zip (by assumption)).1); omega) (by have := bet_at h0 (h1.2.2 _ (List.of_mem_zip (by assumption)).1); omega))) ed_int (by exact div_small (by omega) (by omega)))⟩)))) (by rfl : (PyData.int (((((((winners).zip dividends)).filter fun (x4 : (Int × (Option Int))) => (!((x4).2).isNone)).map fun (x4 : (Int × (Option Int))) => (((ixG bets (x4).1) * (((x4).2).getD default)) / (100 : Int)))).sum)) = (PyData.int (paidF bets winners dividends)))) hR

/-! ### left_over -/
abbrev s_left_over : Stmt := topS 45
abbrev N_left_over : List Str := ["bets", "kept", "step", "winners", "told"]
theorem sc_left_over : FnScope N_left_over ["bets", "kept", "step", "winners"] (defScope s_left_over) := ⟨rfl, rfl, rfl, by decide +kernel, rfl, by decide +kernel, by decide +kernel⟩
def R_left_over : List PyData → PyData → Prop := fun ds d => ∃ (bets : (List Int)) (kept : Rat) (step : Int) (winners : (List Int)), ds = [((eT PyData.int) bets), (eQ kept), (PyData.int step), ((eT PyData.int) winners)] ∧ (PoolOk bets) ∧ (KeptOk kept) ∧ (1 ≤ step ∧ step ≤ 1000) ∧ (WinOk bets.length winners) ∧ d = (PyData.int (leftF bets kept step winners))
set_option maxHeartbeats 4000000 in
theorem ok_left_over {P : Program} {w : World} {K : PySem.W.Frag} {mg : Str → Option Value} {base : Heap} (B : Gb K mg) (F : Fd K mg "left_over" s_left_over) (C_paid_out : Cl P w K mg base 3 "paid_out" ["bets", "winners", "dividends"] (SpP K R_paid_out)) (C_win_dividends : Cl P w K mg base 5 "win_dividends" ["bets", "kept", "step", "winners"] (SpP K R_win_dividends)) : Cl P w K mg base 6 "left_over" ["bets", "kept", "step", "winners"] (SpP K R_left_over) := by
  have BG := B
  obtain ⟨f, fd, F, hm⟩ := F.ex
  refine ⟨f, fd, fnG_of (k := 5) F sc_left_over (spP_len fun ds d h => ?_) (fun cdv A outer s H hr hgd => ⟨_, (pss_cons (ps_set (i := 4) sc_left_over.nd rfl (Or.inl rfl) (pe_cl C_win_dividends (hr.mono (by decide)) hgd (by rfl) (pa_cons (pv 0) (pa_cons (pv 1) (pa_cons (pv 2) (pa_cons (pv 3) pa_nil)))))) (pss_one (ps_ret (pe_ifExp (pt_cmpR op_isN (pv 4) pe_non (nomark _)) (pe_callB (r := rSumT K) (cr_sumT rfl) (by rfl) B.sum_ (by decide +kernel) (pa_cons (pv 0) pa_nil)) (pe_op op_sub (pe_callB (r := rSumT K) (cr_sumT rfl) (by rfl) B.sum_ (by decide +kernel) (pa_cons (pv 0) pa_nil)) (pe_cl C_paid_out (hr.mono (by decide)) hgd (by rfl) (pa_cons (pv 0) (pa_cons (pv 3) (pa_cons (pv 4) pa_nil))))))))), fun vs Q => fn_pure (N := N_left_over) (fun ds d h => ?_) (fun B S ds d h D hR hN => ?_) vs H Q E0⟩), hm, F.kp, F.binds fun _ _ _ _ _ _ us hl => match us, hl with | [_, _, _, _], _ => rfl⟩
  · obtain ⟨bets, kept, step, winners, rfl, h0, h1, h2, h3, rfl⟩ := h; rfl
  · obtain ⟨bets, kept, step, winners, rfl, h0, h1, h2, h3, rfl⟩ := h; simp
  · obtain ⟨bets, kept, step, winners, rfl, h0, h1, h2, h3, rfl⟩ := h
    have hl1 := h0.1
    have hl2 := h0.2.1
    have hps := pool_sum h0
    show Ss _ _ [.da ((eT PyData.int) bets), .da (eQ kept), .da (PyData.int step), .da ((eT PyData.int) winners), .no] _ _
    refine s_seq (s_asg (ed_call (ds := [((eT PyData.int) bets), (eQ kept), (PyData.int step), ((eT PyData.int) winners)]) (ea_cons (ed_var rfl) (ea_cons (ed_var rfl) (ea_cons (ed_var rfl) (ea_cons (ed_var rfl) ea_nil)))) ⟨bets, kept, step, winners, rfl, by assumption, by assumption, by assumption, by assumption, rfl⟩) (s_le (ρ1 := [.da ((eT PyData.int) bets), .da (eQ kept), .da (PyData.int step), .da ((eT PyData.int) winners), .da ((eO (eT (eO PyData.int))) (winF (bets) (kept) (step) (winners)))]) (le_rfl rfl) ?_))
    exact s_ret (ed_is (ed_ite (e := PyData.int) (et_test (ed_is (ed_isN (ed_var rfl)) (by rw [isN_eO (fun _ => rfl)] : _ = PyData.bool ((winF (bets) (kept) (step) (winners))).isNone))) (fun hb1 => (ed_sumT (ed_var rfl))) (fun hb1 => (ed_I0 (ed_sumT (ed_var rfl)) (ed_call (ds := [((eT PyData.int) bets), ((eT PyData.int) winners), ((eT (eO PyData.int)) (((winF (bets) (kept) (step) (winners))).getD default))]) (ea_cons (ed_var rfl) (ea_cons (ed_var rfl) (ea_cons (ed_is (ed_var rfl) (eO_get (f := (eT (eO PyData.int))) (by first | exact some_a (by assumption) | exact some_b (by assumption)) : _ = ((eT (eO PyData.int)) (((winF (bets) (kept) (step) (winners))).getD default)))) ea_nil))) ⟨bets, winners, (((winF (bets) (kept) (step) (winners))).getD default), rfl, by assumption, by assumption, by exact left_a h3 (by assumption) h0 h1 h2.1, rfl⟩)))) (by rfl : (PyData.int (if ((winF (bets) (kept) (step) (winners))).isNone = true then (bets).sum else ((bets).sum - (paidF (bets) (winners) ((((winF (bets) (kept) (step) (winners))).getD default)))))) = (PyData.int (leftF bets kept step winners)))) hR

/-! ### dividends_by_runner -/
abbrev s_dividends_by_runner : Stmt := topS 46
abbrev N_dividends_by_runner : List Str := ["bets", "kept", "step", "found", "one", "told"]
theorem sc_dividends_by_runner : FnScope N_dividends_by_runner ["bets", "kept", "step"] (defScope s_dividends_by_runner) := ⟨rfl, rfl, rfl, by decide +kernel, rfl, by decide +kernel, by decide +kernel⟩
def R_dividends_by_runner : List PyData → PyData → Prop := fun ds d => ∃ (bets : (List Int)) (kept : Rat) (step : Int), ds = [((eT PyData.int) bets), (eQ kept), (PyData.int step)] ∧ (PoolOk bets) ∧ (KeptOk kept) ∧ (1 ≤ step ∧ step ≤ 1000) ∧ d = ((eT (eO PyData.int)) (aloneF bets kept step))
set_option maxHeartbeats 4000000 in
theorem ok_dividends_by_runner {P : Program} {w : World} {K : PySem.W.Frag} {mg : Str → Option Value} {base : Heap} (B : Gb K mg) (F : Fd K mg "dividends_by_runner" s_dividends_by_runner) (C_check_pool : Cl P w K mg base 2 "check_pool" ["bets"] (SpP K R_check_pool)) (C_check_terms : Cl P w K mg base 4 "check_terms" ["kept", "step"] (SpP K R_check_terms)) (C_win_dividends : Cl P w K mg base 5 "win_dividends" ["bets", "kept", "step", "winners"] (SpP K R_win_dividends)) : Cl P w K mg base 6 "dividends_by_runner" ["bets", "kept", "step"] (SpP K R_dividends_by_runner) := by
  have BG := B
  obtain ⟨f, fd, F, hm⟩ := F.ex
  refine ⟨f, fd, fnG_of (k := 5) F sc_dividends_by_runner (spP_len fun ds d h => ?_) (fun cdv A outer s H hr hgd => ⟨_, (pss_cons (ps_expr (pe_cl C_check_pool (hr.mono (by decide)) hgd (by rfl) (pa_cons (pv 0) pa_nil))) (pss_cons (ps_expr (pe_cl C_check_terms (hr.mono (by decide)) hgd (by rfl) (pa_cons (pv 1) (pa_cons (pv 2) pa_nil)))) (pss_cons (ps_set (i := 3) sc_dividends_by_runner.nd rfl (Or.inl rfl) (pe_lst pa_nil)) (pss_cons (ps_for PassesOwn.never rfl (pi_range1 (by rfl) B.range_ (pa_cons (pe_callB (r := rLenS K) call_len_seq (by rfl) B.len_ PySem.boot_len (pa_cons (pv 0) pa_nil)) pa_nil)) (pg_name (i := 4) sc_dividends_by_runner.nd rfl (Or.inl rfl)) (pss_cons (ps_set (i := 5) sc_dividends_by_runner.nd rfl (Or.inl rfl) (pe_cl C_win_dividends (hr.mono (by decide)) hgd (by rfl) (pa_cons (pv 0) (pa_cons (pv 1) (pa_cons (pv 2) (pa_cons (pe_tupF (pa_cons (pv 4) pa_nil)) pa_nil)))))) (pss_one (ps_expr (pe_bm PySem.F.plainAttrs_list PySem.F.slot_list_append PySem.F.type_list_append mt_append (pv 3) (pa_cons (pe_ifExp (pt_cmpR op_isN (pv 5) pe_non (nomark _)) pe_non (pe_ix (r := rIxT K) ix_tup (pv 5) pe_int (fun _ _ => rfl))) pa_nil)))))) (pss_one (ps_ret (pe_callTy (r := rTupOf K) call_tupleF (by rfl) B.tuple_ PyProof.Rows.boot_tuple (pa_cons (pv 3) pa_nil)))))))), fun vs Q => fn_pure (N := N_dividends_by_runner) (fun ds d h => ?_) (fun B S ds d h D hR hN => ?_) vs H Q E0⟩), hm, F.kp, F.binds fun _ _ _ _ _ _ us hl => match us, hl with | [_, _, _], _ => rfl⟩
  · obtain ⟨bets, kept, step, rfl, h0, h1, h2, rfl⟩ := h; rfl
  · obtain ⟨bets, kept, step, rfl, h0, h1, h2, rfl⟩ := h; simp
  · obtain ⟨bets, kept, step, rfl, h0, h1, h2, rfl⟩ := h
    have hl1 := h0.1
    have hl2 := h0.2.1
    have hps := pool_sum h0
    show Ss _ _ [.da ((eT PyData.int) bets), .da (eQ kept), .da (PyData.int step), .no, .no, .no] _ _
    refine s_seq (s_drop (ed_call (ds := [((eT PyData.int) bets)]) (ea_cons (ed_var rfl) ea_nil) ⟨bets, rfl, by assumption, rfl⟩) ?_)
    refine s_seq (s_drop (ed_call (ds := [(eQ kept), (PyData.int step)]) (ea_cons (ed_var rfl) (ea_cons (ed_var rfl) ea_nil)) ⟨kept, step, rfl, by assumption, by assumption, rfl⟩) ?_)
    refine s_seq (s_asgM (ds := ([]).map (eO PyData.int)) (el_lst (ds := [].map (eO PyData.int)) ea_nil) (fun p_found1 => s_le (ρ1 := [.da ((eT PyData.int) bets), .da (eQ kept), .da (PyData.int step), .mu true p_found1 (.lst ([].map (eO PyData.int))), .no, .no]) (le_rfl rfl) ?_))
    refine s_seq (s_forX ((List.range (((bets).length : Int)).toNat)) (fun (i : Nat) => Itm.hard (PyData.int (i : Int))) (ei_rng (ed_lenTX (ed_var rfl)) (by omega)) (fun i0 => [.da ((eT PyData.int) bets), .da (eQ kept), .da (PyData.int step), .mu true p_found1 (.lst (((List.range (i0)).map fun (k : Nat) => aloneAt bets kept step (k : Int)).map (eO PyData.int))), .no, .no]) (le_same (le_same (le_same (le_mu (congrArg MO.lst (by rfl)) (le_no (le_no le_nil)))))) (fun T0 hT0 i0 x0 hx0 => ⟨_, [4], (eg_name (by simp)), ?_⟩) ?_)
    · show Ss _ _ [.da ((eT PyData.int) bets), .da (eQ kept), .da (PyData.int step), .mu true p_found1 (.lst (((List.range (i0)).map fun (k : Nat) => aloneAt bets kept step (k : Int)).map (eO PyData.int))), .da (PyData.int (x0 : Int)), .no] _ _
      have hlt0 := (rng_get hx0).2
      refine s_le (ρ1 := [.da ((eT PyData.int) bets), .da (eQ kept), .da (PyData.int step), .mu true p_found1 (.lst (((List.range (i0)).map fun (k : Nat) => aloneAt bets kept step (k : Int)).map (eO PyData.int))), .da (PyData.int (i0 : Int)), .no]) (le_rfl (by rw [(rng_get hx0).1])) ?_
      have hwo := winOk_one (n := bets.length) (k := (i0 : Int)) (by omega)
      refine s_seq (s_asg (ed_call (ds := [((eT PyData.int) bets), (eQ kept), (PyData.int step), ((eT PyData.int) [(i0 : Int)])]) (ea_cons (ed_var rfl) (ea_cons (ed_var rfl) (ea_cons (ed_var rfl) (ea_cons (ed_tup (ds := [(PyData.int (i0 : Int))]) (ea_cons (ed_var rfl) ea_nil)) ea_nil)))) ⟨bets, kept, step, [(i0 : Int)], rfl, by assumption, by assumption, by assumption, by exact hwo, rfl⟩) (s_le (ρ1 := [.da ((eT PyData.int) bets), .da (eQ kept), .da (PyData.int step), .mu true p_found1 (.lst (((List.range (i0)).map fun (k : Nat) => aloneAt bets kept step (k : Int)).map (eO PyData.int))), .da (PyData.int (i0 : Int)), .da ((eO (eT (eO PyData.int))) (winF (bets) (kept) (step) ([(i0 : Int)])))]) (le_rfl rfl) ?_))
      refine (s_append (ed_ite (e := (eO PyData.int)) (et_test (ed_is (ed_isN (ed_var rfl)) (by rw [isN_eO (fun _ => rfl)] : _ = PyData.bool ((winF (bets) (kept) (step) ([(i0 : Int)]))).isNone))) (fun hb2 => (ed_is ed_non (rfl : _ = ((eO PyData.int) (none : (Option Int)))))) (fun hb2 => (ed_ixTX (f := (eO PyData.int)) (l := (((winF (bets) (kept) (step) ([(i0 : Int)]))).getD default)) (ed_is (ed_var rfl) (eO_get (f := (eT (eO PyData.int))) (by first | exact some_a (by assumption) | exact some_b (by assumption)) : _ = ((eT (eO PyData.int)) (((winF (bets) (kept) (step) ([(i0 : Int)]))).getD default)))) ed_int (by exact inb (by rw [win_one (by assumption)]; decide))))) ⟨_, _, rfl⟩ rfl (by rw [List.length_map, List.length_map, List.length_range]; omega) (s_le (ρ1 := [.da ((eT PyData.int) bets), .da (eQ kept), .da (PyData.int step), .mu true p_found1 (.lst ((((List.range (i0)).map fun (k : Nat) => aloneAt bets kept step (k : Int)) ++ [(if ((winF (bets) (kept) (step) ([(i0 : Int)]))).isNone = true then (none : (Option Int)) else (ixG (((winF (bets) (kept) (step) ([(i0 : Int)]))).getD default) (0 : Int)))]).map (eO PyData.int))), .da (PyData.int (i0 : Int)), .da ((eO (eT (eO PyData.int))) (winF (bets) (kept) (step) ([(i0 : Int)])))]) (le_same (le_same (le_same (le_mu (congrArg MO.lst (by simp)) (le_same (le_same le_nil)))))) ?_))
      exact s_end (le_same (le_same (le_same (le_mu (congrArg MO.lst (by exact congrArg (List.map (eO PyData.int)) (by rw [List.range_succ, List.map_append]; rfl))) (le_no (le_no le_nil))))))
    refine s_le (ρ1 := [.da ((eT PyData.int) bets), .da (eQ kept), .da (PyData.int step), .da ((eL (eO PyData.int)) ((List.range (((List.range (((bets).length : Int)).toNat)).length)).map fun (k : Nat) => aloneAt bets kept step (k : Int))), .no, .no]) (le_same (le_same (le_same (le_frz (le_no (le_no le_nil)))))) ?_
    exact s_ret (ed_is (ed_tupleL (ed_var rfl)) (by rw [List.length_range]; rfl : ((eT (eO PyData.int)) ((List.range (((List.range (((bets).length : Int)).toNat)).length)).map fun (k : Nat) => aloneAt bets kept step (k : Int))) = ((eT (eO PyData.int)) (aloneF bets kept step)))) hR

/-! ### accept_cover -/
abbrev s_accept_cover : Stmt := topS 50
abbrev N_accept_cover : List Str := ["dividends", "money", "rows", "bet", "one"]
theorem sc_accept_cover : FnScope N_accept_cover ["dividends", "money", "rows"] (defScope s_accept_cover) := ⟨rfl, rfl, rfl, by decide +kernel, rfl, by decide +kernel, by decide +kernel⟩
def R_accept_cover : List PyData → PyData → Prop := fun ds d => ∃ (dividends : (List (Option Int))) (money : Int) (rows : (List Int)), ds = [((eT (eO PyData.int)) dividends), (PyData.int money), ((eT PyData.int) rows)] ∧ (DivOk dividends) ∧ (1 ≤ money ∧ money ≤ 1000000) ∧ (CovOk dividends money rows) ∧ d = PyData.none
set_option maxHeartbeats 4000000 in
theorem ok_accept_cover {P : Program} {w : World} {K : PySem.W.Frag} {mg : Str → Option Value} {base : Heap} (B : Gb K mg) (F : Fd K mg "accept_cover" s_accept_cover) (C_check_dividends : Cl P w K mg base 2 "check_dividends" ["dividends"] (SpP K R_check_dividends)) (C_check_sum : Cl P w K mg base 2 "check_sum" ["money"] (SpP K R_check_sum)) (C_is_integer : Cl P w K mg base 1 "is_integer" ["value"] (SpP K R_is_integer)) : Cl P w K mg base 3 "accept_cover" ["dividends", "money", "rows"] (SpP K R_accept_cover) := by
  have BG := B
  obtain ⟨f, fd, F, hm⟩ := F.ex
  refine ⟨f, fd, fnG_of (k := 2) F sc_accept_cover (spP_len fun ds d h => ?_) (fun cdv A outer s H hr hgd => ⟨_, (pss_cons (ps_expr (pe_cl C_check_dividends (hr.mono (by decide)) hgd (by rfl) (pa_cons (pv 0) pa_nil))) (pss_cons (ps_expr (pe_cl C_check_sum (hr.mono (by decide)) hgd (by rfl) (pa_cons (pv 1) pa_nil))) (pss_cons (ps_if (PW.pt (pw_or (pt_not (pt_truth (pe_callB (r := rIsi K) call_isi (by rfl) B.isinstance_ boot_isinstance (pa_cons (pv 2) (pa_cons (pe_bltn (v := .ty "tuple") (u := .type "tuple") (by rfl) B.tuple_ PyProof.Rows.boot_tuple rfl) pa_nil))) (fun _ => rfl))) (pw_or1 (pt_cmpR (r := rNeD K) (op_neD hr.units) (pe_callB (r := rLenS K) call_len_seq (by rfl) B.len_ PySem.boot_len (pa_cons (pv 2) pa_nil)) (pe_callB (r := rLenS K) call_len_seq (by rfl) B.len_ PySem.boot_len (pa_cons (pv 0) pa_nil)) (nomark _))))) pss_never pss_nil) (pss_cons (ps_if (pt_not (pt_truth (pe_callB (r := rAll K) (cr_all rfl) (by rfl) B.all_ (by decide +kernel) (pa_cons (pe_lc (own := [("bet", 3)]) (g := _) (tt := tYes) rfl sc_accept_cover.nd (pi_tup (pv 2)) (blkOk_by (N := N_accept_cover) (sc := defScope s_accept_cover) (by decide +kernel)) (fun _ _ _ _ _ => (pg_name (i := 3) sc_accept_cover.nd rfl (by first | exact Or.inl rfl | exact Or.inr rfl))) (fun _ _ _ _ _ => pts_nil) (fun _ _ _ _ _ => (pe_and (pe_cl C_is_integer (hr.mono (by decide)) hgd (by rfl) (pa_cons (pv 3) pa_nil)) (pe_one (pe_cmpR op_ge (pv 3) pe_int (nomark _)))))) pa_nil)) (fun _ => rfl))) pss_never pss_nil) (pss_cons (ps_if (pt_not (pt_truth (pe_callB (r := rAll K) (cr_all rfl) (by rfl) B.all_ (by decide +kernel) (pa_cons (pe_lc (own := [("one", 4), ("bet", 3)]) (g := _) (tt := tYes) rfl sc_accept_cover.nd (pi_zipA (by rfl) B.zip_ (pa_cons (pv 0) (pa_cons (pv 2) pa_nil))) (blkOk_by (N := N_accept_cover) (sc := defScope s_accept_cover) (by decide +kernel)) (fun _ _ _ _ _ => (pg_tupB (K := K) (n := 2) rfl rfl (pgs_cons (pg_name (i := 4) sc_accept_cover.nd rfl (by first | exact Or.inl rfl | exact Or.inr rfl)) (pgs_cons (pg_name (i := 3) sc_accept_cover.nd rfl (by first | exact Or.inl rfl | exact Or.inr rfl)) pgs_nil)))) (fun _ _ _ _ _ => pts_nil) (fun _ _ _ _ _ => (pe_or (pe_cmpR op_isN (pv 4) pe_non (nomark _)) (pe_one (pe_cmpR op_ge (pe_op op_fdivG (pe_op op_mulG (pv 3) (pv 4)) pe_int) (pv 1) (nomark _)))))) pa_nil)) (fun _ => rfl))) pss_never pss_nil) (pss_one (ps_if (pt_cmpR op_ge (pe_callB (r := rSumT K) (cr_sumT rfl) (by rfl) B.sum_ (by decide +kernel) (pa_cons (pv 2) pa_nil)) (pv 1) (nomark _)) pss_never pss_nil))))))), fun vs Q => fn_pure (N := N_accept_cover) (fun ds d h => ?_) (fun B S ds d h D hR hN => ?_) vs H Q E0⟩), hm, F.kp, F.binds fun _ _ _ _ _ _ us hl => match us, hl with | [_, _, _], _ => rfl⟩
  · obtain ⟨dividends, money, rows, rfl, h0, h1, h2, rfl⟩ := h; rfl
  · obtain ⟨dividends, money, rows, rfl, h0, h1, h2, rfl⟩ := h; simp
  · obtain ⟨dividends, money, rows, rfl, h0, h1, h2, rfl⟩ := h
    have hl1 := h0.1
    have hl2 := h0.2.1
    have hrl := h2.1
    show Ss _ _ [.da ((eT (eO PyData.int)) dividends), .da (PyData.int money), .da ((eT PyData.int) rows), .no, .no] _ _
    refine s_seq (s_drop (ed_call (ds := [((eT (eO PyData.int)) dividends)]) (ea_cons (ed_var rfl) ea_nil) ⟨dividends, rfl, by assumption, rfl⟩) ?_)
    refine s_seq (s_drop (ed_call (ds := [(PyData.int money)]) (ea_cons (ed_var rfl) ea_nil) ⟨money, rfl, by assumption, rfl⟩) ?_)
    refine s_seq (s_skip (et_or (et_not (et_truB (ed_isi (ed_var rfl) (show kitB "tuple" "tuple" = some true by decide +kernel)))) (fun hb1 => (et_test (ed_neI (ed_lenTX (ed_var rfl)) (ed_lenTX (ed_var rfl)))))) (by simp; omega : ((!true) || (!decide (((rows).length : Int) = ((dividends).length : Int)))) = false) ?_)
    refine s_seq (s_skip (et_not (et_truB (ed_all (ed_L (el_lcAX (xs := rows) (ea := fun x => Itm.hard (PyData.int x)) (enc := PyData.bool) (fb := fun (x2 : Int) => ((isIntD ((PyData.int x2))) && (decide ((0 : Int) ≤ x2)))) (ei_tupX (ed_var rfl)) (by first | omega | (rw [List.length_zip]; omega)) (by simp) (fun _ _ x2 hx2 => ⟨_, rfl, (eg_name (by simp)), (ed_and (ed_call (ds := [(PyData.int x2)]) (ea_cons (ed_var rfl) ea_nil) ⟨(PyData.int x2), rfl, rfl⟩) (fun hb3 => (ed_B0 (ed_var rfl) ed_int)))⟩)))))) (by rw [all_id (fun x hx => by have := h2.2.1 x hx; simp [isIntD, isi_int, isi_bool]; omega)]; rfl : (!((((rows).map fun (x2 : Int) => ((isIntD ((PyData.int x2))) && (decide ((0 : Int) ≤ x2))))).all id)) = false) ?_)
    refine s_seq (s_skip (et_not (et_truB (ed_all (ed_L (el_lcAX (xs := ((dividends).zip rows)) (ea := fun p => Itm.soft [(eO PyData.int) p.1, PyData.int p.2]) (enc := PyData.bool) (fb := fun (x4 : ((Option Int) × Int)) => (((x4).1).isNone || (decide (money ≤ (((x4).2 * (((x4).1).getD default)) / (100 : Int)))))) (ei_zipTX (ed_var rfl) (ed_var rfl)) (by first | omega | (rw [List.length_zip]; omega)) (by simp) (fun _ _ x4 hx4 => ⟨_, rfl, (eg_soft (egs_cons (eg_name (by simp)) (egs_cons (eg_name (by simp)) egs_nil))), (ed_or (ed_is (ed_isN (ed_var rfl)) (by rw [isN_eO (fun _ => rfl)] : _ = PyData.bool ((x4).1).isNone)) (fun hb5 => (ed_B0 (ed_I (ed_I (ed_var rfl) (ed_is (ed_var rfl) (eO_get (f := PyData.int) (by first | exact some_a (by assumption) | exact some_b (by assumption)) : _ = (PyData.int (((x4).1).getD default)))) (by exact mul_r (by have := opt_pos2 (h0.2.2 _ (List.of_mem_zip (by assumption)).1) (some_b (by assumption)); omega) (by have := opt_pos2 (h0.2.2 _ (List.of_mem_zip (by assumption)).1) (some_b (by assumption)); omega))) ed_int (by exact div_small (by omega) (by omega))) (ed_var rfl))))⟩)))))) (by rw [all_id (fun p hp => cov_bool (h2.2.2.1 p hp))]; rfl : (!((((((dividends).zip rows)).map fun (x4 : ((Option Int) × Int)) => (((x4).1).isNone || (decide (money ≤ (((x4).2 * (((x4).1).getD default)) / (100 : Int))))))).all id)) = false) ?_)
    refine (s_skip (et_test (ed_B0 (ed_sumT (ed_var rfl)) (ed_var rfl))) (by exact decide_eq_false (by have := h2.2.2.2; omega) : (decide (money ≤ (rows).sum)) = false) ?_)
    exact hN rfl _ _

/-! ### impact -/
abbrev s_impact : Stmt := topS 51
abbrev N_impact : List Str := ["bets", "kept", "step", "runner", "stake", "wide", "own", "gain"]
theorem sc_impact : FnScope N_impact ["bets", "kept", "step", "runner", "stake"] (defScope s_impact) := ⟨rfl, rfl, rfl, by decide +kernel, rfl, by decide +kernel, by decide +kernel⟩
def R_impact : List PyData → PyData → Prop := fun ds d => ∃ (bets : (List Int)) (kept : Rat) (step : Int) (runner : Int) (stake : Int), ds = [((eT PyData.int) bets), (eQ kept), (PyData.int step), (PyData.int runner), (PyData.int stake)] ∧ (PoolOk bets) ∧ (KeptOk kept) ∧ (1 ≤ step ∧ step ≤ 1000) ∧ (0 ≤ runner ∧ runner < bets.length) ∧ (1 ≤ stake ∧ stake ≤ 1000) ∧ d = (PyData.int (impF bets kept step runner stake))
set_option maxHeartbeats 4000000 in
theorem ok_impact {P : Program} {w : World} {K : PySem.W.Frag} {mg : Str → Option Value} {base : Heap} (B : Gb K mg) (F : Fd K mg "impact" s_impact) (C_check_pool : Cl P w K mg base 2 "check_pool" ["bets"] (SpP K R_check_pool)) (C_check_terms : Cl P w K mg base 4 "check_terms" ["kept", "step"] (SpP K R_check_terms)) (C_dividend : Cl P w K mg base 1 "dividend" ["share", "bet", "step"] (SpP K R_dividend)) (C_is_integer : Cl P w K mg base 1 "is_integer" ["value"] (SpP K R_is_integer)) (C_net_pool : Cl P w K mg base 1 "net_pool" ["bets", "kept"] (SpP K R_net_pool)) : Cl P w K mg base 5 "impact" ["bets", "kept", "step", "runner", "stake"] (SpP K R_impact) := by
  have BG := B
  obtain ⟨f, fd, F, hm⟩ := F.ex
  refine ⟨f, fd, fnG_of (k := 4) F sc_impact (spP_len fun ds d h => ?_) (fun cdv A outer s H hr hgd => ⟨_, (pss_cons (ps_expr (pe_cl C_check_pool (hr.mono (by decide)) hgd (by rfl) (pa_cons (pv 0) pa_nil))) (pss_cons (ps_expr (pe_cl C_check_terms (hr.mono (by decide)) hgd (by rfl) (pa_cons (pv 1) (pa_cons (pv 2) pa_nil)))) (pss_cons (ps_if (PW.pt (pw_or (pt_not (pt_truth (pe_cl C_is_integer (hr.mono (by decide)) hgd (by rfl) (pa_cons (pv 3) pa_nil)) (fun _ => rfl))) (pw_or1 (pt_not (pt_chain op_le op_lt pe_int (pv 3) (pe_callB (r := rLenS K) call_len_seq (by rfl) B.len_ PySem.boot_len (pa_cons (pv 0) pa_nil))))))) pss_never pss_nil) (pss_cons (ps_if (PW.pt (pw_or (pt_not (pt_truth (pe_cl C_is_integer (hr.mono (by decide)) hgd (by rfl) (pa_cons (pv 4) pa_nil)) (fun _ => rfl))) (pw_or1 (pt_not (pt_chain op_le op_le pe_int (pv 4) (pe_glob (v := .int 1000000) rfl B.c_MAX_AMOUNT.choose_spec ⟨_, rfl⟩)))))) pss_never pss_nil) (pss_cons (ps_set (i := 5) sc_impact.nd rfl (Or.inl rfl) (pe_op (r := rCatF K) op_catF (pe_op (r := rCatF K) op_catF (pe_slice (r := rSlF K) sl_tupF (pv 0) po_none (po_some (pv 3))) (pe_tupF (pa_cons (pe_op op_add (pe_ix (r := rIxT K) ix_tup (pv 0) (pv 3) (fun _ _ => rfl)) (pv 4)) pa_nil))) (pe_slice (r := rSlF K) sl_tupF (pv 0) (po_some (pe_op op_add (pv 3) pe_int)) po_none))) (pss_cons (ps_set (i := 6) sc_impact.nd rfl (Or.inl rfl) (pe_ix (r := rIxT K) ix_tup (pv 5) (pv 3) (fun _ _ => rfl))) (pss_cons (ps_set (i := 7) sc_impact.nd rfl (Or.inl rfl) (pe_op op_sub (pe_cl C_net_pool (hr.mono (by decide)) hgd (by rfl) (pa_cons (pv 5) (pa_cons (pv 1) pa_nil))) (pv 6))) (pss_one (ps_ret (pe_cl C_dividend (hr.mono (by decide)) hgd (by rfl) (pa_cons (pe_op op_add (pv 6) (pv 7)) (pa_cons (pv 6) (pa_cons (pv 2) pa_nil))))))))))))), fun vs Q => fn_pure (N := N_impact) (fun ds d h => ?_) (fun B S ds d h D hR hN => ?_) vs H Q E0⟩), hm, F.kp, F.binds fun _ _ _ _ _ _ us hl => match us, hl with | [_, _, _, _, _], _ => rfl⟩
  · obtain ⟨bets, kept, step, runner, stake, rfl, h0, h1, h2, h3, h4, rfl⟩ := h; rfl
  · obtain ⟨bets, kept, step, runner, stake, rfl, h0, h1, h2, h3, h4, rfl⟩ := h; simp
  · obtain ⟨bets, kept, step, runner, stake, rfl, h0, h1, h2, h3, h4, rfl⟩ := h
    have hl1 := h0.1
    have hl2 := h0.2.1
    have hps := pool_sum h0
    have hwx := bet_at h0 h3
    have hws := wide_ok (s := ixG bets runner + stake) h0 h3 (by omega)
    show Ss _ _ [.da ((eT PyData.int) bets), .da (eQ kept), .da (PyData.int step), .da (PyData.int runner), .da (PyData.int stake), .no, .no, .no] _ _
    refine s_seq (s_drop (ed_call (ds := [((eT PyData.int) bets)]) (ea_cons (ed_var rfl) ea_nil) ⟨bets, rfl, by assumption, rfl⟩) ?_)
    refine s_seq (s_drop (ed_call (ds := [(eQ kept), (PyData.int step)]) (ea_cons (ed_var rfl) (ea_cons (ed_var rfl) ea_nil)) ⟨kept, step, rfl, by assumption, by assumption, rfl⟩) ?_)
    refine s_seq (s_skip (et_or (et_not (et_truB (ed_call (ds := [(PyData.int runner)]) (ea_cons (ed_var rfl) ea_nil) ⟨(PyData.int runner), rfl, rfl⟩))) (fun hb2 => (et_not (et_chain (ed_chain ed_int (ed_var rfl) (fun hb1 => (ed_lenTX (ed_var rfl)))))))) (by simp [isIntD, isi_int, isi_bool]; omega : ((!(isIntD ((PyData.int runner)))) || (!(decide ((0 : Int) ≤ runner) && decide (runner < ((bets).length : Int))))) = false) ?_)
    refine s_seq (s_skip (et_or (et_not (et_truB (ed_call (ds := [(PyData.int stake)]) (ea_cons (ed_var rfl) ea_nil) ⟨(PyData.int stake), rfl, rfl⟩))) (fun hb4 => (et_not (et_chain (ed_chain ed_int (ed_var rfl) (fun hb3 => ed_int)))))) (by simp [isIntD, isi_int, isi_bool]; omega : ((!(isIntD ((PyData.int stake)))) || (!(decide ((1 : Int) ≤ stake) && decide (stake ≤ (1000000 : Int))))) = false) ?_)
    refine s_seq (s_asg (ed_is (ed_catT (f := PyData.int) (l := ((cutX bets none (some runner)) ++ [((ixG bets runner) + stake)])) (m := (cutX bets (some (runner + (1 : Int))) none)) (ed_catT (f := PyData.int) (l := (cutX bets none (some runner))) (m := [((ixG bets runner) + stake)]) (ed_sliceT (ed_var rfl) eo_no (eo_some (ed_var rfl))) (ed_tup (ds := [(PyData.int ((ixG bets runner) + stake))]) (ea_cons (ed_I0 (ed_ixTX (f := PyData.int) (l := bets) (ed_var rfl) (ed_var rfl) (by first | exact inb h3 | exact inb (by rw [hws.1]; exact h3))) (ed_var rfl)) ea_nil)) (by have h1 := cutX_le bets none (some runner); have h2 := cutX_le bets (some (runner + 1)) none; simp; omega)) (ed_sliceT (ed_var rfl) (eo_some (ed_I0 (ed_var rfl) ed_int)) eo_no) (by have h1 := cutX_le bets none (some runner); have h2 := cutX_le bets (some (runner + 1)) none; simp; omega)) (by exact congrArg (eT PyData.int) (cut_imp h3) : _ = ((eT PyData.int) ((bets).take (runner).toNat ++ [ixG bets runner + stake] ++ (bets).drop ((runner).toNat + 1))))) (s_le (ρ1 := [.da ((eT PyData.int) bets), .da (eQ kept), .da (PyData.int step), .da (PyData.int runner), .da (PyData.int stake), .da ((eT PyData.int) ((bets).take (runner).toNat ++ [ixG bets runner + stake] ++ (bets).drop ((runner).toNat + 1))), .no, .no]) (le_rfl rfl) ?_))
    refine s_seq (s_asg (ed_ixTX (f := PyData.int) (l := ((bets).take (runner).toNat ++ [ixG bets runner + stake] ++ (bets).drop ((runner).toNat + 1))) (ed_var rfl) (ed_var rfl) (by first | exact inb h3 | exact inb (by rw [hws.1]; exact h3))) (s_le (ρ1 := [.da ((eT PyData.int) bets), .da (eQ kept), .da (PyData.int step), .da (PyData.int runner), .da (PyData.int stake), .da ((eT PyData.int) ((bets).take (runner).toNat ++ [ixG bets runner + stake] ++ (bets).drop ((runner).toNat + 1))), .da (PyData.int (ixG ((bets).take (runner).toNat ++ [ixG bets runner + stake] ++ (bets).drop ((runner).toNat + 1)) runner)), .no]) (le_rfl rfl) ?_))
    refine s_seq (s_asg (ed_I0 (ed_call (ds := [((eT PyData.int) ((bets).take (runner).toNat ++ [ixG bets runner + stake] ++ (bets).drop ((runner).toNat + 1))), (eQ kept)]) (ea_cons (ed_var rfl) (ea_cons (ed_var rfl) ea_nil)) ⟨((bets).take (runner).toNat ++ [ixG bets runner + stake] ++ (bets).drop ((runner).toNat + 1)), kept, rfl, by exact hws.2.2, by assumption, rfl⟩) (ed_var rfl)) (s_le (ρ1 := [.da ((eT PyData.int) bets), .da (eQ kept), .da (PyData.int step), .da (PyData.int runner), .da (PyData.int stake), .da ((eT PyData.int) ((bets).take (runner).toNat ++ [ixG bets runner + stake] ++ (bets).drop ((runner).toNat + 1))), .da (PyData.int (ixG ((bets).take (runner).toNat ++ [ixG bets runner + stake] ++ (bets).drop ((runner).toNat + 1)) runner)), .da (PyData.int ((netP (((bets).take (runner).toNat ++ [ixG bets runner + stake] ++ (bets).drop ((runner).toNat + 1))) (kept)) - (ixG ((bets).take (runner).toNat ++ [ixG bets runner + stake] ++ (bets).drop ((runner).toNat + 1)) runner)))]) (le_rfl rfl) ?_))
    exact s_ret (ed_is (ed_call (ds := [(PyData.int ((ixG ((bets).take (runner).toNat ++ [ixG bets runner + stake] ++ (bets).drop ((runner).toNat + 1)) runner) + ((netP (((bets).take (runner).toNat ++ [ixG bets runner + stake] ++ (bets).drop ((runner).toNat + 1))) (kept)) - (ixG ((bets).take (runner).toNat ++ [ixG bets runner + stake] ++ (bets).drop ((runner).toNat + 1)) runner)))), (PyData.int (ixG ((bets).take (runner).toNat ++ [ixG bets runner + stake] ++ (bets).drop ((runner).toNat + 1)) runner)), (PyData.int step)]) (ea_cons (ed_I0 (ed_var rfl) (ed_var rfl)) (ea_cons (ed_var rfl) (ea_cons (ed_var rfl) ea_nil))) ⟨((ixG ((bets).take (runner).toNat ++ [ixG bets runner + stake] ++ (bets).drop ((runner).toNat + 1)) runner) + ((netP (((bets).take (runner).toNat ++ [ixG bets runner + stake] ++ (bets).drop ((runner).toNat + 1))) (kept)) - (ixG ((bets).take (runner).toNat ++ [ixG bets runner + stake] ++ (bets).drop ((runner).toNat + 1)) runner))), (ixG ((bets).take (runner).toNat ++ [ixG bets runner + stake] ++ (bets).drop ((runner).toNat + 1)) runner), step, rfl, by rw [hws.2.1]; omega, by assumption, rfl⟩) (by rw [hws.2.1]; rfl : (PyData.int (divF (((ixG ((bets).take (runner).toNat ++ [ixG bets runner + stake] ++ (bets).drop ((runner).toNat + 1)) runner) + ((netP (((bets).take (runner).toNat ++ [ixG bets runner + stake] ++ (bets).drop ((runner).toNat + 1))) (kept)) - (ixG ((bets).take (runner).toNat ++ [ixG bets runner + stake] ++ (bets).drop ((runner).toNat + 1)) runner)))) ((ixG ((bets).take (runner).toNat ++ [ixG bets runner + stake] ++ (bets).drop ((runner).toNat + 1)) runner)) (step))) = (PyData.int (impF bets kept step runner stake)))) hR

/-! ### _law_legs -/
abbrev s_law_legs : Stmt := topS 63
abbrev N_law_legs : List Str := ["state", "found", "k", "down"]
theorem sc_law_legs : FnScope N_law_legs ["state"] (defScope s_law_legs) := ⟨rfl, rfl, rfl, by decide +kernel, rfl, by decide +kernel, by decide +kernel⟩
def R_law_legs : List PyData → (PyData → Prop) → Prop := fun ds Φ => ds = [] ∧ ∀ z : (List (Rat × Str)), LegsOk 10 z → Φ ((eT (eP eQ PyData.str)) z)
set_option maxHeartbeats 4000000 in
theorem ok_law_legs {P : Program} {w : World} {K : PySem.W.Frag} {mg : Str → Option Value} {base : Heap} (B : Gb K mg) (F : Fd K mg "_law_legs" s_law_legs) (C_law_draw : Cl P w K mg base 1 "_law_draw" ["state", "many"] (SpW K R_draw)) (C_law_pick : Cl P w K mg base 2 "_law_pick" ["state", "some"] (SpW K R_pick)) (C_law_q : Cl P w K mg base 1 "_law_q" ["up", "down"] (SpP K R_law_q)) : Cl P w K mg base 3 "_law_legs" ["state"] (SpW K R_law_legs) := by
  have BG := B
  obtain ⟨f, fd, F, hm⟩ := F.ex
  refine ⟨f, fd, fnG_of (k := 2) F sc_law_legs (spW_len fun ds d h => ?_) (fun cdv A outer s H hr hgd => ⟨_, (pss_cons (ps_set (i := 1) sc_law_legs.nd rfl (Or.inl rfl) (pe_lst pa_nil)) (pss_cons (ps_for PassesOwn.never rfl (pi_range1 (by rfl) B.range_ (pa_cons (pe_op op_add pe_int (pe_cl C_law_draw (hr.mono (by decide)) hgd (by rfl) (pa_cons (pv 0) (pa_cons pe_int pa_nil)))) pa_nil)) (pg_name (i := 2) sc_law_legs.nd rfl (Or.inl rfl)) (pss_cons (ps_set (i := 3) sc_law_legs.nd rfl (Or.inl rfl) (pe_op op_add pe_int (pe_cl C_law_draw (hr.mono (by decide)) hgd (by rfl) (pa_cons (pv 0) (pa_cons pe_int pa_nil))))) (pss_one (ps_expr (pe_bm PySem.F.plainAttrs_list PySem.F.slot_list_append PySem.F.type_list_append mt_append (pv 1) (pa_cons (pe_tupF (pa_cons (pe_cl C_law_q (hr.mono (by decide)) hgd (by rfl) (pa_cons (pe_op op_add (pv 3) (pe_cl C_law_draw (hr.mono (by decide)) hgd (by rfl) (pa_cons (pv 0) (pa_cons (pe_op op_mulG pe_int (pv 3)) pa_nil)))) (pa_cons (pv 3) pa_nil))) (pa_cons (pe_cl C_law_pick (hr.mono (by decide)) hgd (by rfl) (pa_cons (pv 0) (pa_cons (pe_lst (pa_cons pe_str (pa_cons pe_str (pa_cons pe_str (pa_cons pe_str pa_nil))))) pa_nil))) pa_nil))) pa_nil)))))) (pss_one (ps_ret (pe_callTy (r := rTupOf K) call_tupleF (by rfl) B.tuple_ PyProof.Rows.boot_tuple (pa_cons (pv 1) pa_nil)))))), fun vs Q => fn_draws (N := N_law_legs) (fun ds d h => ?_) (fun B S a ds Φ h D hR => ?_) vs H Q E0⟩), hm, F.kp, F.binds fun _ _ _ _ _ _ us hl => match us, hl with | [_], _ => rfl⟩
  · obtain ⟨rfl, hΦ⟩ := h; rfl
  · obtain ⟨rfl, hΦ⟩ := h; simp
  · obtain ⟨rfl, hΦ⟩ := h
    show Ss _ _ [.mu false a (.any StOk), .no, .no, .no] _ _
    refine s_seq (s_asgM (ds := ([]).map (eP eQ PyData.str)) (el_lst (ds := [].map (eP eQ PyData.str)) ea_nil) (fun p_found1 => s_le (ρ1 := [.mu false a (.any StOk), .mu true p_found1 (.lst ([].map (eP eQ PyData.str))), .no, .no]) (le_rfl rfl) ?_))
    refine s_seq (s_forNw (β := List Leg) (γ := Int) (fun a : Int => List.range a.toNat) (fun (i : Nat) => Itm.hard (PyData.int (i : Int))) (eiw_rng (ew_op (e := PyData.int) (F := (fun _ y3 => ((1 : Int) + y3))) (ew_det (f := PyData.int) (x := (1 : Int)) ed_int) (ew_drawD (i := 0) ed_int rfl rfl (by omega)) (fun x2 y3 hx4 hy5 _ _ _ ha6 hb7 => by subst hx4; exact (ed_I0 ha6 hb7))) (by rintro m ⟨x, y, hx, hy, hm⟩; (try dsimp only at hx hy hm); omega)) (fun i0 b0 => b0.length = i0 ∧ ∀ l ∈ b0, LegOk l) (fun i0 b0 => [.mu false a (.any StOk), .mu true p_found1 (.lst (b0.map (eP eQ PyData.str))), .no, .no]) ([]) (by exact ⟨rfl, fun l h => nomatch h⟩) (le_same (le_same (le_no (le_no le_nil)))) (fun n0 hn0 T0 hT0 i0 x0 b0 hx0 hP0 => ⟨_, [2], (eg_name (by simp)), ?_⟩) (fun n0 hn0 b0 hP0 => ?_))
    · show Ss _ _ [.mu false a (.any StOk), .mu true p_found1 (.lst (b0.map (eP eQ PyData.str))), .da (PyData.int (x0 : Int)), .no] _ _
      have hi0 := (rng_get hx0).2
      refine s_seq (s_asgW (ew_op (e := PyData.int) (F := (fun _ y10 => ((1 : Int) + y10))) (ew_det (f := PyData.int) (x := (1 : Int)) ed_int) (ew_drawD (i := 0) ed_int rfl rfl (by omega)) (fun x9 y10 hx11 hy12 _ _ _ ha13 hb14 => by subst hx11; exact (ed_I0 ha13 hb14))) (fun down_v h_down_v => s_le (ρ1 := [.mu false a (.any StOk), .mu true p_found1 (.lst (b0.map (eP eQ PyData.str))), .da (PyData.int (x0 : Int)), .da (PyData.int down_v)]) (le_rfl rfl) ?_))
      try dsimp only at h_down_v
      have hdw : 1 ≤ down_v ∧ down_v ≤ 12 := by omega
      refine (s_appendW (ew_as (g := (eP eQ PyData.str)) (R := (fun q25 => (fun z => ∃ (x23 : Int × Int × Unit), ((fun z22 => ∃ x16 y17, (fun y => y = down_v) x16 ∧ (fun x => 0 ≤ x ∧ x < ((5 : Int) * down_v)) y17 ∧ z22 = (fun _ y17 => (down_v + y17)) x16 y17) x23.1 ∧ (fun y => y = down_v) x23.2.1 ∧ True) ∧ z = (Rat.divInt (x23.1) (down_v))) q25.1 ∧ (fun x => x ∈ [(Str.ofString "won"), (Str.ofString "won"), (Str.ofString "lost"), (Str.ofString "void")]) q25.2)) (ew_tup (ds := fun p : Rat × Str × Unit => [(eQ p.1), (PyData.str p.2.1)]) (n := 2) (ewa_cons (ew_call (e := eQ) (F := (fun (x23 : Int × Int × Unit) => (Rat.divInt (x23.1) (down_v)))) (ds := fun (x23 : Int × Int × Unit) => [(PyData.int x23.1), (PyData.int x23.2.1)]) (ewa_cons (ew_op (e := PyData.int) (F := (fun _ y17 => (down_v + y17))) (ew_det (f := PyData.int) (x := down_v) (ed_var rfl)) (ew_drawD (i := 0) (ed_I ed_int (ed_var rfl) (by first | assumption | exact mul_l (by omega) (by omega) | exact mul_r (by omega) (by omega))) rfl rfl (by omega)) (fun x16 y17 hx18 hy19 _ _ _ ha20 hb21 => by subst hx18; exact (ed_I0 ha20 hb21))) (ewa_cons (ew_det (f := PyData.int) (x := down_v) (ed_var rfl)) ewa_nil)) (fun x23 hx24 => by have e1 := hx24.2.1; (try dsimp only at e1); exact ⟨x23.1, x23.2.1, rfl, by omega, by exact small_lt (by omega), by simp only [e1]⟩)) (ewa_cons (ew_pickLD (i := 0) (ed_L (el_lst (ds := [(Str.ofString "won"), (Str.ofString "won"), (Str.ofString "lost"), (Str.ofString "void")].map PyData.str) (ea_cons ed_str (ea_cons ed_str (ea_cons ed_str (ea_cons ed_str ea_nil)))))) rfl rfl (by simp)) ewa_nil)) (fun _ => rfl)) (fun p hp => ⟨(p.1, p.2.1), ⟨hp.1, hp.2.1⟩, rfl⟩)) ⟨_, _, rfl⟩ rfl (by rw [List.length_map]; omega) (fun app_v h_app_v => s_le (ρ1 := [.mu false a (.any StOk), .mu true p_found1 (.lst ((b0 ++ [app_v]).map (eP eQ PyData.str))), .da (PyData.int (x0 : Int)), .da (PyData.int down_v)]) (le_same (le_mu (congrArg MO.lst (by simp)) (le_same (le_same le_nil)))) ?_))
      try dsimp only at h_app_v
      have hleg := leg_made hdw h_app_v
      exact s_endN (b0 ++ [app_v]) (by exact legs_next hP0 hleg) (le_same (le_same (le_no (le_no le_nil))))
    · refine s_le (ρ1 := [.mu false a (.any StOk), .da ((eL (eP eQ PyData.str)) b0), .no, .no]) (le_same (le_frz (le_no (le_no le_nil)))) ?_
      exact s_retW (i := 0) (ew_det (f := (fun l : List (Rat × Str) => PyData.tuple (l.map (eP eQ PyData.str)))) (x := b0) (ed_tupleL (ed_var rfl))) rfl hR (fun x hx => by subst hx; exact hΦ _ (legs_done hn0 hP0))

/-! ### _law_factor -/
abbrev s_law_factor : Stmt := topS 64
abbrev N_law_factor : List Str := ["leg"]
theorem sc_law_factor : FnScope N_law_factor ["leg"] (defScope s_law_factor) := ⟨rfl, rfl, rfl, by decide +kernel, rfl, by decide +kernel, by decide +kernel⟩
def R_law_factor : List PyData → PyData → Prop := fun ds d => ∃ (leg : (Rat × Str)), ds = [((eP eQ PyData.str) leg)] ∧ d = (eQ (facF leg))
set_option maxHeartbeats 4000000 in
theorem ok_law_factor {P : Program} {w : World} {K : PySem.W.Frag} {mg : Str → Option Value} {base : Heap} (B : Gb K mg) (F : Fd K mg "_law_factor" s_law_factor) : Cl P w K mg base 1 "_law_factor" ["leg"] (SpP K R_law_factor) := by
  have BG := B
  obtain ⟨f, fd, F, hm⟩ := F.ex
  refine ⟨f, fd, fnG_of (k := 0) F sc_law_factor (spP_len fun ds d h => ?_) (fun cdv A outer s H hr hgd => ⟨_, (pss_one (ps_ret (pe_ifExp (pt_cmpR op_eq (pe_ix (r := rIxT K) ix_tup (pv 0) pe_int (fun _ _ => rfl)) pe_str (nomark _)) (pe_ix (r := rIxT K) ix_tup (pv 0) pe_int (fun _ _ => rfl)) (pe_ifExp (pt_cmpR op_eq (pe_ix (r := rIxT K) ix_tup (pv 0) pe_int (fun _ _ => rfl)) pe_str (nomark _)) (pe_tupF (pa_cons pe_int (pa_cons pe_int pa_nil))) (pe_tupF (pa_cons pe_int (pa_cons pe_int pa_nil))))))), fun vs Q => fn_pure (N := N_law_factor) (fun ds d h => ?_) (fun B S ds d h D hR hN => ?_) vs H Q E0⟩), hm, F.kp, F.binds fun _ _ _ _ _ _ us hl => match us, hl with | [_], _ => rfl⟩
  · obtain ⟨leg, rfl, rfl⟩ := h; rfl
  · obtain ⟨leg, rfl, rfl⟩ := h; simp
  · obtain ⟨leg, rfl, rfl⟩ := h
    show Ss _ _ [.da ((eP eQ PyData.str) leg)] _ _
    exact s_ret (ed_is (ed_ite (e := eQ) (et_test (ed_eqS (ed_ixT (ed_var rfl) ed_int rfl) ed_str)) (fun hb1 => (ed_ixT (ed_var rfl) ed_int rfl)) (fun hb1 => (ed_ite (e := eQ) (et_test (ed_eqS (ed_ixT (ed_var rfl) ed_int rfl) ed_str)) (fun hb2 => (ed_is (d1 := eQ (0 : Rat)) (ed_tup (ds := [PyData.int (0 : Int), PyData.int (1 : Int)]) (ea_cons ed_int (ea_cons ed_int ea_nil))) (by rfl))) (fun hb2 => (ed_is (d1 := eQ (1 : Rat)) (ed_tup (ds := [PyData.int (1 : Int), PyData.int (1 : Int)]) (ea_cons ed_int (ea_cons ed_int ea_nil))) (by rfl)))))) (by rfl : (eQ (if (decide ((leg).2 = (Str.ofString "won"))) = true then (leg).1 else (if (decide ((leg).2 = (Str.ofString "lost"))) = true then (0 : Rat) else (1 : Rat)))) = (eQ (facF leg)))) hR

/-! ### _law_products -/
abbrev s_law_products : Stmt := topS 65
abbrev N_law_products : List Str := ["factors", "rows", "factor", "k"]
theorem sc_law_products : FnScope N_law_products ["factors"] (defScope s_law_products) := ⟨rfl, rfl, rfl, by decide +kernel, rfl, by decide +kernel, by decide +kernel⟩
def R_law_products : List PyData → PyData → Prop := fun ds d => ∃ (factors : (List Rat)), ds = [((eL eQ) factors)] ∧ ((∀ x ∈ factors, FB x) ∧ factors.length ≤ 11) ∧ d = ((eL eQ) (esF factors))
set_option maxHeartbeats 4000000 in
theorem ok_law_products {P : Program} {w : World} {K : PySem.W.Frag} {mg : Str → Option Value} {base : Heap} (B : Gb K mg) (F : Fd K mg "_law_products" s_law_products) (C_law_add : Cl P w K mg base 2 "_law_add" ["one", "other"] (SpP K R_law_add)) (C_law_mul : Cl P w K mg base 2 "_law_mul" ["one", "other"] (SpP K R_law_mul)) : Cl P w K mg base 3 "_law_products" ["factors"] (SpP K R_law_products) := by
  have BG := B
  obtain ⟨f, fd, F, hm⟩ := F.ex
  refine ⟨f, fd, fnG_of (k := 2) F sc_law_products (spP_len fun ds d h => ?_) (fun cdv A outer s H hr hgd => ⟨_, (pss_cons (ps_set (i := 1) sc_law_products.nd rfl (Or.inr rfl) (pe_op (r := rCatG K) op_catG (pe_lst (pa_cons (pe_tupF (pa_cons pe_int (pa_cons pe_int pa_nil))) pa_nil)) (pe_op op_rep (pe_lst (pa_cons (pe_tupF (pa_cons pe_int (pa_cons pe_int pa_nil))) pa_nil)) (pe_callB (r := rLenS K) call_len_seq (by rfl) B.len_ PySem.boot_len (pa_cons (pv 0) pa_nil))))) (pss_cons (ps_for PassesOwn.never rfl (pi_list (pv 0)) (pg_name (i := 2) sc_law_products.nd rfl (Or.inr rfl)) (pss_one (ps_set (i := 1) sc_law_products.nd rfl (Or.inr rfl) (pe_op (r := rCatG K) op_catG (pe_lst (pa_cons (pe_ix (r := rIxL K) ix_list (pv 1) pe_int (fun _ _ => rfl)) pa_nil)) (pe_lc (own := [("k", 3)]) (g := _) (tt := tYes) rfl sc_law_products.nd (pi_range2 (by rfl) B.range_ (pa_cons pe_int (pa_cons (pe_callB (r := rLenS K) call_len_seq (by rfl) B.len_ PySem.boot_len (pa_cons (pv 1) pa_nil)) pa_nil))) (blkOk_by (N := N_law_products) (sc := defScope s_law_products) (by decide +kernel)) (fun _ _ _ _ _ => (pg_name (i := 3) sc_law_products.nd rfl (by first | exact Or.inl rfl | exact Or.inr rfl))) (fun _ _ _ _ _ => pts_nil) (fun _ _ _ _ _ => (pe_cl C_law_add (hr.mono (by decide)) hgd (by rfl) (pa_cons (pe_ix (r := rIxL K) ix_list (pv 1) (pv 3) (fun _ _ => rfl)) (pa_cons (pe_cl C_law_mul (hr.mono (by decide)) hgd (by rfl) (pa_cons (pe_ix (r := rIxL K) ix_list (pv 1) (pe_op op_sub (pv 3) pe_int) (fun _ _ => rfl)) (pa_cons (pv 2) pa_nil))) pa_nil))))))))) (pss_one (ps_ret (pv 1))))), fun vs Q => fn_pure (N := N_law_products) (fun ds d h => ?_) (fun B S ds d h D hR hN => ?_) vs H Q E0⟩), hm, F.kp, F.binds fun _ _ _ _ _ _ us hl => match us, hl with | [_], _ => rfl⟩
  · obtain ⟨factors, rfl, h0, rfl⟩ := h; rfl
  · obtain ⟨factors, rfl, h0, rfl⟩ := h; simp
  · obtain ⟨factors, rfl, h0, rfl⟩ := h
    have hF := h0.1
    have hlen := h0.2
    show Ss _ _ [.da ((eL eQ) factors), .no, .no, .no] _ _
    refine s_seq (s_asg (ed_L (el_cat (ed_L (el_lst (ds := [(1 : Rat)].map eQ) (ea_cons (ed_is (d1 := eQ (1 : Rat)) (ed_tup (ds := [PyData.int (1 : Int), PyData.int (1 : Int)]) (ea_cons ed_int (ea_cons ed_int ea_nil))) (by rfl)) ea_nil))) (ed_L (el_rep (el_lst (ds := [(0 : Rat)].map eQ) (ea_cons (ed_is (d1 := eQ (0 : Rat)) (ed_tup (ds := [PyData.int (0 : Int), PyData.int (1 : Int)]) (ea_cons ed_int (ea_cons ed_int ea_nil))) (by rfl)) ea_nil)) (fun _ _ => (ed_lenLX (ed_var rfl))) (by simp; omega))) (by simp; omega))) (s_le (ρ1 := [.da ((eL eQ) factors), .da ((eL eQ) ([(1 : Rat)] ++ (List.replicate (((factors).length : Int)).toNat [(0 : Rat)]).flatten)), .no, .no]) (le_rfl rfl) ?_))
    refine s_seq (s_forX (factors) (fun x => Itm.hard (eQ x)) (ei_listX (ed_var rfl)) (fun i0 => [.da ((eL eQ) factors), .da ((eL eQ) (prL factors.length (eF (factors.take (i0))))), .no, .no]) (le_same (le_da (by exact congrArg (eL eQ) (prL_init _ _)) (le_no (le_no le_nil)))) (fun T0 hT0 i0 x0 hx0 => ⟨_, [2], (eg_name (by simp)), ?_⟩) ?_)
    · show Ss _ _ [.da ((eL eQ) factors), .da ((eL eQ) (prL factors.length (eF (factors.take (i0))))), .da (eQ x0), .no] _ _
      have htk := fun y (hy : y ∈ factors.take i0) => hF y (List.mem_of_mem_take hy)
      have hxm := hF x0 (List.mem_of_getElem? hx0)
      have hi0 := (List.getElem?_eq_some_iff.mp hx0).1
      have hpl := prL_len factors.length (eF (factors.take i0))
      have htl : (factors.take i0).length = i0 := by rw [List.length_take]; omega
      have hq : ∀ k, Qk 300 (eF (factors.take i0) k) := fun k => EB_qk (by omega) (eF_eb htk k)
      have hq3 : Qk 30 x0 := hxm.qk (by decide) (by decide)
      refine (s_asg (ed_L (el_cat (ed_L (el_lst (ds := [(ixG (prL factors.length (eF (factors.take (i0)))) (0 : Int))].map eQ) (ea_cons (ed_ixLX (f := eQ) (l := (prL factors.length (eF (factors.take (i0))))) (ed_var rfl) ed_int (by exact inb (by omega))) ea_nil))) (ed_L (el_lcAX (xs := (rngX (1 : Int) (((prL factors.length (eF (factors.take (i0))))).length : Int))) (ea := fun (i : Int) => Itm.hard (PyData.int i)) (enc := eQ) (fb := fun (x1 : Int) => ((ixG (prL factors.length (eF (factors.take (i0)))) x1) + ((ixG (prL factors.length (eF (factors.take (i0)))) (x1 - (1 : Int))) * x0))) (ei_rngX2 ed_int (ed_lenLX (ed_var rfl)) (by omega)) (by simp only [List.length_map, rngX, List.length_range]; omega) (by simp) (fun _ _ x1 hx1 => ⟨_, rfl, (eg_name (by simp)), (ed_is (ed_call (ds := [((eP PyData.int PyData.int) (qp (ixG (prL factors.length (eF (factors.take (i0)))) x1))), ((eP PyData.int PyData.int) (qp ((ixG (prL factors.length (eF (factors.take (i0)))) (x1 - (1 : Int))) * x0)))]) (ea_cons (ed_is (ed_ixLX (f := eQ) (l := (prL factors.length (eF (factors.take (i0))))) (ed_var rfl) (ed_var rfl) (by exact inb (by have := rngX_mem.mp (by assumption); omega))) (rfl : _ = ((eP PyData.int PyData.int) (qp (ixG (prL factors.length (eF (factors.take (i0)))) x1))))) (ea_cons (ed_is (ed_is (ed_call (ds := [((eP PyData.int PyData.int) (qp (ixG (prL factors.length (eF (factors.take (i0)))) (x1 - (1 : Int))))), ((eP PyData.int PyData.int) (qp x0))]) (ea_cons (ed_is (ed_ixLX (f := eQ) (l := (prL factors.length (eF (factors.take (i0))))) (ed_var rfl) (ed_I0 (ed_var rfl) ed_int) (by exact inb (by have := rngX_mem.mp (by assumption); omega))) (rfl : _ = ((eP PyData.int PyData.int) (qp (ixG (prL factors.length (eF (factors.take (i0)))) (x1 - (1 : Int))))))) (ea_cons (ed_is (ed_var rfl) (rfl : _ = ((eP PyData.int PyData.int) (qp x0)))) ea_nil)) ⟨(qp (ixG (prL factors.length (eF (factors.take (i0)))) (x1 - (1 : Int)))), (qp x0), rfl, by rw [prL_atI (by have := rngX_mem.mp (by assumption); omega)]; exact ((hq _).qb (by decide)).pb, by exact (hq3.qb (by decide)).pb, rfl⟩) (by simp only [qv_qp] : _ = (eQ ((ixG (prL factors.length (eF (factors.take (i0)))) (x1 - (1 : Int))) * x0)))) (rfl : _ = ((eP PyData.int PyData.int) (qp ((ixG (prL factors.length (eF (factors.take (i0)))) (x1 - (1 : Int))) * x0))))) ea_nil)) ⟨(qp (ixG (prL factors.length (eF (factors.take (i0)))) x1)), (qp ((ixG (prL factors.length (eF (factors.take (i0)))) (x1 - (1 : Int))) * x0)), rfl, by rw [prL_atI (by have := rngX_mem.mp (by assumption); omega)]; exact ((hq _).qb (by decide)).pb, by rw [prL_atI (by have := rngX_mem.mp (by assumption); omega)]; exact ((Qk_mul (hq _) hq3).qb (by decide)).pb, rfl⟩) (by simp only [qv_qp] : _ = (eQ ((ixG (prL factors.length (eF (factors.take (i0)))) x1) + ((ixG (prL factors.length (eF (factors.take (i0)))) (x1 - (1 : Int))) * x0)))))⟩))) (by simp only [List.length_map, List.length_cons, List.length_nil, rngX, List.length_range]; omega))) (s_le (ρ1 := [.da ((eL eQ) factors), .da ((eL eQ) ([(ixG (prL factors.length (eF (factors.take (i0)))) (0 : Int))] ++ (((rngX (1 : Int) (((prL factors.length (eF (factors.take (i0))))).length : Int))).map fun (x1 : Int) => ((ixG (prL factors.length (eF (factors.take (i0)))) x1) + ((ixG (prL factors.length (eF (factors.take (i0)))) (x1 - (1 : Int))) * x0))))), .da (eQ x0), .no]) (le_rfl rfl) ?_))
      exact s_end (le_same (le_da (by exact congrArg (eL eQ) (prL_step hx0)) (le_no (le_no le_nil))))
    exact s_ret (ed_is (ed_var rfl) (by rw [List.take_length]; exact congrArg (eL eQ) (prL_end _) : ((eL eQ) (prL factors.length (eF (factors.take ((factors).length))))) = ((eL eQ) (esF factors)))) hR

/-! ### _law_least -/
abbrev s_law_least : Stmt := topS 67
abbrev N_law_least : List Str := ["legs", "sizes", "lots", "prices", "price", "leg", "many", "rows", "k"]
theorem sc_law_least : FnScope N_law_least ["legs", "sizes", "lots"] (defScope s_law_least) := ⟨rfl, rfl, rfl, by decide +kernel, rfl, by decide +kernel, by decide +kernel⟩
def R_law_least : List PyData → PyData → Prop := fun ds d => ∃ (legs : (List (Rat × Str))) (sizes : (List Int)) (lots : Int), ds = [((eT (eP eQ PyData.str)) legs), ((eT PyData.int) sizes), (PyData.int lots)] ∧ (LegsOk 10 legs) ∧ (SzOk legs.length sizes) ∧ (lots = wholeC legs.length sizes) ∧ d = ((eO PyData.int) (leastF (pricesS legs) sizes (wholeC legs.length sizes) legs.length))
set_option maxHeartbeats 4000000 in
theorem ok_law_least {P : Program} {w : World} {K : PySem.W.Frag} {mg : Str → Option Value} {base : Heap} (B : Gb K mg) (F : Fd K mg "_law_least" s_law_least) (C_law_less : Cl P w K mg base 1 "_law_less" ["one", "other"] (SpP K R_law_less)) (C_law_products : Cl P w K mg base 3 "_law_products" ["factors"] (SpP K R_law_products)) (C_law_q : Cl P w K mg base 1 "_law_q" ["up", "down"] (SpP K R_law_q)) (C_law_sum : Cl P w K mg base 3 "_law_sum" ["rows"] (SpP K R_law_sum)) : Cl P w K mg base 4 "_law_least" ["legs", "sizes", "lots"] (SpP K R_law_least) := by
  have BG := B
  obtain ⟨f, fd, F, hm⟩ := F.ex
  refine ⟨f, fd, fnG_of (k := 3) F sc_law_least (spP_len fun ds d h => ?_) (fun cdv A outer s H hr hgd => ⟨_, (pss_cons (ps_setLc (i := 3) (own := [("price", 4)]) (g := _) (tt := tYes) rfl sc_law_least.nd rfl rfl (sw_true rfl rfl rfl (by decide +kernel)) (pi_list (pe_callB (r := rSortedI K) cr_sortedI (by rfl) B.sorted_ (by decide +kernel) (pa_cons (pe_lc (own := [("leg", 5)]) (g := _) (tt := tYes) rfl sc_law_least.nd (pi_tup (pv 0)) (blkOk_by (N := N_law_least) (sc := defScope s_law_least) (by decide +kernel)) (fun _ _ _ _ _ => (pg_name (i := 5) sc_law_least.nd rfl (by first | exact Or.inl rfl | exact Or.inr rfl))) (fun _ _ _ _ _ => pts_nil) (fun _ _ _ _ _ => (pe_op op_fdivG (pe_op op_mulG (pe_ix (r := rIxT K) ix_tup (pe_ix (r := rIxT K) ix_tup (pv 5) pe_int (fun _ _ => rfl)) pe_int (fun _ _ => rfl)) pe_int) (pe_ix (r := rIxT K) ix_tup (pe_ix (r := rIxT K) ix_tup (pv 5) pe_int (fun _ _ => rfl)) pe_int (fun _ _ => rfl))))) pa_nil))) (blkOk_by (N := N_law_least) (sc := defScope s_law_least) (by decide +kernel)) (fun _ _ _ _ _ => (pg_name (i := 4) sc_law_least.nd rfl (by first | exact Or.inl rfl | exact Or.inr rfl))) (fun _ _ _ _ _ => pts_nil) (fun _ _ _ _ _ => (pe_cl C_law_q (hr.mono (by decide)) hgd (by rfl) (pa_cons (pv 4) (pa_cons pe_int pa_nil))))) (pss_cons (ps_for PassesOwn.never rfl (pi_range1 (by rfl) B.range_ (pa_cons (pe_op op_add (pe_callB (r := rLenS K) call_len_seq (by rfl) B.len_ PySem.boot_len (pa_cons (pv 0) pa_nil)) pe_int) pa_nil)) (pg_name (i := 6) sc_law_least.nd rfl (Or.inr rfl)) (pss_cons (ps_set (i := 7) sc_law_least.nd rfl (Or.inr rfl) (pe_cl C_law_products (hr.mono (by decide)) hgd (by rfl) (pa_cons (pe_slice sl_list (pv 3) po_none (po_some (pv 6))) pa_nil))) (pss_one (ps_if (pt_not (pt_truth (pe_cl C_law_less (hr.mono (by decide)) hgd (by rfl) (pa_cons (pe_cl C_law_sum (hr.mono (by decide)) hgd (by rfl) (pa_cons (pe_lc (own := [("k", 8)]) (g := _) (tt := _) rfl sc_law_least.nd (pi_tup (pv 1)) (blkOk_by (N := N_law_least) (sc := defScope s_law_least) (by decide +kernel)) (fun _ _ _ _ _ => (pg_name (i := 8) sc_law_least.nd rfl (by first | exact Or.inl rfl | exact Or.inr rfl))) (fun _ _ _ _ _ => (pts_one (pt_cmpR op_le (pv 8) (pv 6) (nomark _)))) (fun _ _ _ _ _ => (pe_ix (r := rIxL K) ix_list (pv 7) (pv 8) (fun _ _ => rfl)))) pa_nil)) (pa_cons (pe_tupF (pa_cons (pv 2) (pa_cons pe_int pa_nil))) pa_nil))) (fun _ => rfl))) (pss_one (ps_ret (pv 6))) pss_nil)))) (pss_one (ps_ret pe_non)))), fun vs Q => fn_pure (N := N_law_least) (fun ds d h => ?_) (fun B S ds d h D hR hN => ?_) vs H Q E0⟩), hm, F.kp, F.binds fun _ _ _ _ _ _ us hl => match us, hl with | [_, _, _], _ => rfl⟩
  · obtain ⟨legs, sizes, lots, rfl, h0, h1, h2, rfl⟩ := h; rfl
  · obtain ⟨legs, sizes, lots, rfl, h0, h1, h2, rfl⟩ := h; simp
  · obtain ⟨legs, sizes, lots, rfl, h0, h1, h2, rfl⟩ := h
    have hl1 := h0.1
    have hl2 := h0.2.1
    have hsl := szOk_len h1
    have hwl := whole_le hl2 h1
    have hpl := prices_len legs
    have hpf := prices_fb h0
    show Ss _ _ [.da ((eT (eP eQ PyData.str)) legs), .da ((eT PyData.int) sizes), .da (PyData.int lots), .no, .no, .no, .no, .no, .no] _ _
    refine s_seq (s_asg (ed_is (ed_L (el_lcAX (xs := (sortI ((legs).map fun (x1 : (Rat × Str)) => ((((x1).1).num * (27720 : Int)) / (((x1).1).den : Int))))) (ea := fun x => Itm.hard (PyData.int x)) (enc := eQ) (fb := fun (x2 : Int) => (Rat.divInt (x2) ((27720 : Int)))) (ei_listX (ed_L (el_sortI (ed_L (el_lcAX (xs := legs) (ea := fun x => Itm.hard ((eP eQ PyData.str) x)) (enc := PyData.int) (fb := fun (x1 : (Rat × Str)) => ((((x1).1).num * (27720 : Int)) / (((x1).1).den : Int))) (ei_tupX (ed_var rfl)) (by first | omega | (rw [sortI_len, List.length_map]; omega)) (by simp) (fun _ _ x1 hx1 => ⟨_, rfl, (eg_name (by simp)), (ed_I (ed_I (ed_ixT (ed_ixT (ed_var rfl) ed_int rfl) ed_int rfl) ed_int (by first | assumption | exact mul_l (by omega) (by omega) | exact mul_r (by omega) (by omega))) (ed_ixT (ed_ixT (ed_var rfl) ed_int rfl) ed_int rfl) (by exact div_b (Int.natCast_pos.mpr (Rat.den_pos _)) (small_lt (by have := (h0.2.2 _ (by assumption)).1; omega))))⟩)))))) (by first | omega | (rw [sortI_len, List.length_map]; omega)) (by simp) (fun _ _ x2 hx2 => ⟨_, rfl, (eg_name (by simp)), (ed_call (ds := [(PyData.int x2), (PyData.int (27720 : Int))]) (ea_cons (ed_var rfl) (ea_cons ed_int ea_nil)) ⟨x2, (27720 : Int), rfl, by decide, by decide, rfl⟩)⟩))) (by exact congrArg (eL eQ) (pricesL_eq h0) : _ = ((eL eQ) (pricesS legs)))) (s_le (ρ1 := [.da ((eT (eP eQ PyData.str)) legs), .da ((eT PyData.int) sizes), .da (PyData.int lots), .da ((eL eQ) (pricesS legs)), .no, .no, .no, .no, .no]) (le_rfl rfl) ?_))
    refine s_seq (s_forN (β := Unit) ((List.range ((((legs).length : Int) + (1 : Int))).toNat)) (fun (i : Nat) => Itm.hard (PyData.int (i : Int))) (ei_rng (ed_I0 (ed_lenTX (ed_var rfl)) ed_int) (by omega)) (fun i0 b0 => ∀ j, j < i0 → enoughB (pricesS legs) sizes (wholeC legs.length sizes) j = false) (fun i0 b0 => [.da ((eT (eP eQ PyData.str)) legs), .da ((eT PyData.int) sizes), .da (PyData.int lots), .da ((eL eQ) (pricesS legs)), .no, .no, .no, .no, .no]) (()) (by intro j hj; exact absurd hj (Nat.not_lt_zero j)) (le_same (le_same (le_same (le_same (le_no (le_no (le_no (le_no (le_no le_nil))))))))) (fun T0 hT0 i0 x0 b0 hx0 hP0 => ⟨_, [6], (eg_name (by simp)), ?_⟩) (fun b0 hP0 => ?_))
    · show Ss _ _ [.da ((eT (eP eQ PyData.str)) legs), .da ((eT PyData.int) sizes), .da (PyData.int lots), .da ((eL eQ) (pricesS legs)), .no, .no, .da (PyData.int (x0 : Int)), .no, .no] _ _
      obtain ⟨hxe, hxn⟩ := rng_get hx0
      have htl : ((pricesS legs).take x0).length = x0 := by rw [List.length_take]; omega
      have htf := fun y (hy : y ∈ (pricesS legs).take x0) => hpf y (List.mem_of_mem_take hy)
      have hel := esF_len ((pricesS legs).take x0)
      refine s_seq (s_asg (ed_call (ds := [((eL eQ) ((pricesS legs).take x0))]) (ea_cons (ed_is (ed_L (el_sliceX (ed_var rfl) eo_no (eo_some (ed_var rfl)))) (by exact cut_take (by omega) : _ = ((eL eQ) ((pricesS legs).take x0)))) ea_nil) ⟨((pricesS legs).take x0), rfl, by exact ⟨htf, by show ((pricesS legs).take x0).length ≤ 11; omega⟩, rfl⟩) (s_le (ρ1 := [.da ((eT (eP eQ PyData.str)) legs), .da ((eT PyData.int) sizes), .da (PyData.int lots), .da ((eL eQ) (pricesS legs)), .no, .no, .da (PyData.int (x0 : Int)), .da ((eL eQ) (esF (((pricesS legs).take x0)))), .no]) (le_rfl rfl) ?_))
      refine (s_if (b := (!(decide ((sumE ((pricesS legs).take x0) sizes) < qv ((lots, (1 : Int))))))) (et_not (et_truB (ed_is (ed_call (ds := [((eP PyData.int PyData.int) (qp (sumE ((pricesS legs).take x0) sizes))), ((eP PyData.int PyData.int) (lots, (1 : Int)))]) (ea_cons (ed_is (ed_is (ed_call (ds := [((eS eQ) (true, (((sizes).filter fun (x3 : Int) => (decide (x3 ≤ (x0 : Int)))).map fun (x3 : Int) => (ixG (esF (((pricesS legs).take x0))) x3))))]) (ea_cons (ed_is (ed_L (el_lcPX (xs := sizes) (ea := fun x => Itm.hard (PyData.int x)) (p := fun (x3 : Int) => (decide (x3 ≤ (x0 : Int)))) (enc := eQ) (fb := fun (x3 : Int) => (ixG (esF (((pricesS legs).take x0))) x3)) (ei_tupX (ed_var rfl)) (by first | omega | (rw [sortI_len, List.length_map]; omega)) (by simp) (fun _ _ x3 hx3 => ⟨_, rfl, (eg_name (by simp)), (et_test (ed_B0 (ed_var rfl) (ed_var rfl))), fun hp4 => (ed_ixLX (f := eQ) (l := (esF (((pricesS legs).take x0)))) (ed_var rfl) (ed_var rfl) (by exact inb (by have := h1.2.2 _ (by assumption); have := of_decide_eq_true (by assumption : decide (_ ≤ (x0 : Int)) = true); omega)))⟩))) (rfl : _ = ((eS eQ) (true, (((sizes).filter fun (x3 : Int) => (decide (x3 ≤ (x0 : Int)))).map fun (x3 : Int) => (ixG (esF (((pricesS legs).take x0))) x3)))))) ea_nil) ⟨(true, (((sizes).filter fun (x3 : Int) => (decide (x3 ≤ (x0 : Int)))).map fun (x3 : Int) => (ixG (esF (((pricesS legs).take x0))) x3))), rfl, by exact sum_pre htf (by omega) (fun k hk => by have := filt_in h1 hk; omega) (by have := List.length_filter_le (fun (k : Int) => decide (k ≤ (x0 : Int))) sizes; omega), rfl⟩) (by exact congrArg eQ (sum_lw htl h1) : _ = (eQ (sumE ((pricesS legs).take x0) sizes)))) (rfl : _ = ((eP PyData.int PyData.int) (qp (sumE ((pricesS legs).take x0) sizes))))) (ea_cons (ed_tup (ds := [(PyData.int lots), (PyData.int (1 : Int))]) (ea_cons (ed_var rfl) (ea_cons ed_int ea_nil))) ea_nil)) ⟨(qp (sumE ((pricesS legs).take x0) sizes)), (lots, (1 : Int)), rfl, by exact den_pos _, by show (0 : Int) < 1; decide, by exact ((sumE_qk htf (by omega) (by omega)).qb (by decide)).pb, by exact pb_small (by omega) (by decide) (by decide), rfl⟩) (by simp only [qv_qp] : _ = (PyData.bool (decide ((sumE ((pricesS legs).take x0) sizes) < qv ((lots, (1 : Int)))))))))) (fun hc0 => ?_) (fun hc0 => ?_))
      · exact s_ret (ed_is (ed_is (ed_var rfl) (rfl : _ = ((eO PyData.int) (some (x0 : Int))))) (by rw [qv_1, h2] at hc0; exact least_stop (fun j hj => hP0 j (by omega)) rfl hc0 (by omega) : ((eO PyData.int) (some (x0 : Int))) = ((eO PyData.int) (leastF (pricesS legs) sizes (wholeC legs.length sizes) legs.length)))) hR
      · refine s_next ?_
        exact s_endN () (by rw [qv_1, h2, hxe] at hc0; exact least_on hP0 rfl hc0) (le_same (le_same (le_same (le_same (le_no (le_no (le_no (le_no (le_no le_nil)))))))))
    · exact s_ret (ed_is (ed_is ed_non (rfl : _ = ((eO PyData.int) (none : (Option Int))))) (by rw [List.length_range] at hP0; exact least_none (fun j hj => hP0 j (by omega)) : ((eO PyData.int) (none : (Option Int))) = ((eO PyData.int) (leastF (pricesS legs) sizes (wholeC legs.length sizes) legs.length)))) hR

/-! ### _law_slips_hold -/
abbrev s_law_slips_hold : Stmt := topS 66
abbrev N_law_slips_hold : List Str := ["state", "legs", "stake", "many", "sizes", "k", "rows", "leg", "due", "lots", "whole", "every", "told", "row", "size", "more", "further_in", "chances", "mean_in", "price", "chance"]
theorem sc_law_slips_hold : FnScope N_law_slips_hold ["state"] (defScope s_law_slips_hold) := ⟨rfl, rfl, rfl, by decide +kernel, rfl, by decide +kernel, by decide +kernel⟩
def R_law_slips_hold : List PyData → (PyData → Prop) → Prop := fun ds Φ => ds = [] ∧ ∀ z : Bool, z = true → Φ (PyData.bool z)
set_option maxHeartbeats 4000000 in
theorem ok_law_slips_hold {P : Program} {w : World} {K : PySem.W.Frag} {mg : Str → Option Value} {base : Heap} (B : Gb K mg) (F : Fd K mg "_law_slips_hold" s_law_slips_hold) (C_law_add : Cl P w K mg base 2 "_law_add" ["one", "other"] (SpP K R_law_add)) (C_law_choose : Cl P w K mg base 1 "_law_choose" ["many", "few"] (SpP K R_law_choose)) (C_law_draw : Cl P w K mg base 1 "_law_draw" ["state", "many"] (SpW K R_draw)) (C_law_factor : Cl P w K mg base 1 "_law_factor" ["leg"] (SpP K R_law_factor)) (C_law_least : Cl P w K mg base 4 "_law_least" ["legs", "sizes", "lots"] (SpP K R_law_least)) (C_law_legs : Cl P w K mg base 3 "_law_legs" ["state"] (SpW K R_law_legs)) (C_law_mul : Cl P w K mg base 2 "_law_mul" ["one", "other"] (SpP K R_law_mul)) (C_law_products : Cl P w K mg base 3 "_law_products" ["factors"] (SpP K R_law_products)) (C_law_q : Cl P w K mg base 1 "_law_q" ["up", "down"] (SpP K R_law_q)) (C_law_same : Cl P w K mg base 1 "_law_same" ["actual", "due"] (SpP K R_law_same)) (C_law_sum : Cl P w K mg base 3 "_law_sum" ["rows"] (SpP K R_law_sum)) (C_cost : Cl P w K mg base 5 "cost" ["legs", "sizes", "stake"] (SpP K R_cost)) (C_count_lines : Cl P w K mg base 5 "count_lines" ["legs", "sizes"] (SpP K R_count_lines)) (C_fair_price : Cl P w K mg base 5 "fair_price" ["chances"] (SpP K R_fair_price)) (C_least_winners : Cl P w K mg base 5 "least_winners" ["legs", "sizes", "stake"] (SpP K R_least_winners)) (C_lines : Cl P w K mg base 5 "lines" ["legs", "sizes", "stake"] (SpP K R_lines)) (C_mean_return : Cl P w K mg base 5 "mean_return" ["legs", "sizes", "stake", "chances"] (SpP K R_mean_return)) (C_returned : Cl P w K mg base 5 "returned" ["legs", "sizes", "stake"] (SpP K R_returned)) (C_rounding : Cl P w K mg base 6 "rounding" ["legs", "sizes", "stake"] (SpP K R_rounding)) : Cl P w K mg base 7 "_law_slips_hold" ["state"] (SpW K R_law_slips_hold) := by
  have BG := B
  obtain ⟨f, fd, F, hm⟩ := F.ex
  refine ⟨f, fd, fnG_of (k := 6) F sc_law_slips_hold (spW_len fun ds d h => ?_) (fun cdv A outer s H hr hgd => ⟨_, (pss_cons (ps_asg (pe_tupF (pa_cons (pe_cl C_law_legs (hr.mono (by decide)) hgd (by rfl) (pa_cons (pv 0) pa_nil)) (pa_cons (pe_op op_add pe_int (pe_cl C_law_draw (hr.mono (by decide)) hgd (by rfl) (pa_cons (pv 0) (pa_cons pe_int pa_nil)))) pa_nil))) (pg_tup rfl (pgs_cons (pg_name (i := 1) sc_law_slips_hold.nd rfl (Or.inr rfl)) (pgs_cons (pg_name (i := 2) sc_law_slips_hold.nd rfl (Or.inl rfl)) pgs_nil))) rfl) (pss_cons (ps_set (i := 3) sc_law_slips_hold.nd rfl (Or.inr rfl) (pe_callB (r := rLenS K) call_len_seq (by rfl) B.len_ PySem.boot_len (pa_cons (pv 1) pa_nil))) (pss_cons (ps_set (i := 4) sc_law_slips_hold.nd rfl (Or.inl rfl) (pe_callTy (r := rTupOf K) call_tupleF (by rfl) B.tuple_ PyProof.Rows.boot_tuple (pa_cons (pe_lc (own := [("k", 5)]) (g := _) (tt := _) rfl sc_law_slips_hold.nd (pi_range2 (by rfl) B.range_ (pa_cons pe_int (pa_cons (pe_op op_add (pv 3) pe_int) pa_nil))) (blkOk_by (N := N_law_slips_hold) (sc := defScope s_law_slips_hold) (by decide +kernel)) (fun _ _ _ _ _ => (pg_name (i := 5) sc_law_slips_hold.nd rfl (by first | exact Or.inl rfl | exact Or.inr rfl))) (fun _ _ _ _ _ => (pts_one (pt_cmpR (r := rEqD K) (op_eqD hr.units) (pe_cl C_law_draw (hr.mono (by decide)) hgd (by rfl) (pa_cons (pv 0) (pa_cons pe_int pa_nil))) pe_int (nomark _)))) (fun _ _ _ _ _ => (pv 5))) pa_nil))) (pss_cons (ps_asg (pe_tupF (pa_cons (pe_ifExp (pt_truth (pv 4) (fun _ => rfl)) (pv 4) (pe_tupF (pa_cons (pv 3) pa_nil))) (pa_cons (pe_cl C_law_products (hr.mono (by decide)) hgd (by rfl) (pa_cons (pe_lc (own := [("leg", 7)]) (g := _) (tt := tYes) rfl sc_law_slips_hold.nd (pi_tup (pv 1)) (blkOk_by (N := N_law_slips_hold) (sc := defScope s_law_slips_hold) (by decide +kernel)) (fun _ _ _ _ _ => (pg_name (i := 7) sc_law_slips_hold.nd rfl (by first | exact Or.inl rfl | exact Or.inr rfl))) (fun _ _ _ _ _ => pts_nil) (fun _ _ _ _ _ => (pe_cl C_law_factor (hr.mono (by decide)) hgd (by rfl) (pa_cons (pv 7) pa_nil)))) pa_nil)) pa_nil))) (pg_tup rfl (pgs_cons (pg_name (i := 4) sc_law_slips_hold.nd rfl (Or.inl rfl)) (pgs_cons (pg_name (i := 6) sc_law_slips_hold.nd rfl (Or.inr rfl)) pgs_nil))) rfl) (pss_cons (ps_set (i := 8) sc_law_slips_hold.nd rfl (Or.inl rfl) (pe_cl C_law_mul (hr.mono (by decide)) hgd (by rfl) (pa_cons (pe_cl C_law_sum (hr.mono (by decide)) hgd (by rfl) (pa_cons (pe_lc (own := [("k", 5)]) (g := _) (tt := tYes) rfl sc_law_slips_hold.nd (pi_tup (pv 4)) (blkOk_by (N := N_law_slips_hold) (sc := defScope s_law_slips_hold) (by decide +kernel)) (fun _ _ _ _ _ => (pg_name (i := 5) sc_law_slips_hold.nd rfl (by first | exact Or.inl rfl | exact Or.inr rfl))) (fun _ _ _ _ _ => pts_nil) (fun _ _ _ _ _ => (pe_ix (r := rIxL K) ix_list (pv 6) (pv 5) (fun _ _ => rfl)))) pa_nil)) (pa_cons (pe_tupF (pa_cons (pv 2) (pa_cons pe_int pa_nil))) pa_nil)))) (pss_cons (ps_set (i := 9) sc_law_slips_hold.nd rfl (Or.inl rfl) (pe_callB (r := rSumT K) (cr_sumT rfl) (by rfl) B.sum_ (by decide +kernel) (pa_cons (pe_lc (own := [("k", 5)]) (g := _) (tt := tYes) rfl sc_law_slips_hold.nd (pi_tup (pv 4)) (blkOk_by (N := N_law_slips_hold) (sc := defScope s_law_slips_hold) (by decide +kernel)) (fun _ _ _ _ _ => (pg_name (i := 5) sc_law_slips_hold.nd rfl (by first | exact Or.inl rfl | exact Or.inr rfl))) (fun _ _ _ _ _ => pts_nil) (fun _ _ _ _ _ => (pe_cl C_law_choose (hr.mono (by decide)) hgd (by rfl) (pa_cons (pv 3) (pa_cons (pv 5) pa_nil))))) pa_nil))) (pss_cons (ps_if (pt_not (pt_truth (pe_cl C_law_same (hr.mono (by decide)) hgd (by rfl) (pa_cons (pe_lst (pa_cons (pe_cl C_returned (hr.mono (by decide)) hgd (by rfl) (pa_cons (pv 1) (pa_cons (pv 4) (pa_cons (pv 2) pa_nil)))) (pa_cons (pe_cl C_count_lines (hr.mono (by decide)) hgd (by rfl) (pa_cons (pv 1) (pa_cons (pv 4) pa_nil))) (pa_cons (pe_cl C_cost (hr.mono (by decide)) hgd (by rfl) (pa_cons (pv 1) (pa_cons (pv 4) (pa_cons (pv 2) pa_nil)))) pa_nil)))) (pa_cons (pe_lst (pa_cons (pv 8) (pa_cons (pv 9) (pa_cons (pe_op op_mulG (pv 9) (pv 2)) pa_nil)))) pa_nil))) (fun _ => rfl))) pss_never pss_nil) (pss_cons (ps_set (i := 10) sc_law_slips_hold.nd rfl (Or.inl rfl) (pe_tupF (pa_cons pe_int (pa_cons pe_int pa_nil)))) (pss_cons (ps_for PassesOwn.never rfl (pi_tup (pv 1)) (pg_name (i := 7) sc_law_slips_hold.nd rfl (Or.inl rfl)) (pss_one (ps_set (i := 10) sc_law_slips_hold.nd rfl (Or.inl rfl) (pe_cl C_law_mul (hr.mono (by decide)) hgd (by rfl) (pa_cons (pv 10) (pa_cons (pe_cl C_law_add (hr.mono (by decide)) hgd (by rfl) (pa_cons (pe_cl C_law_factor (hr.mono (by decide)) hgd (by rfl) (pa_cons (pv 7) pa_nil)) (pa_cons (pe_tupF (pa_cons pe_int (pa_cons pe_int pa_nil))) pa_nil))) pa_nil)))))) (pss_cons (ps_set (i := 11) sc_law_slips_hold.nd rfl (Or.inl rfl) (pe_cl C_returned (hr.mono (by decide)) hgd (by rfl) (pa_cons (pv 1) (pa_cons (pe_callTy (r := rTupOf K) call_tupleF (by rfl) B.tuple_ PyProof.Rows.boot_tuple (pa_cons (pe_callTy (r := rListRng) (cr_listRng rfl) (by rfl) B.list_ PyProof.Rows.boot_list (pa_cons (pe_callTy (r := rRng2) cr_rng2 (by rfl) B.range_ (by decide +kernel) (pa_cons pe_int (pa_cons (pe_op op_add (pv 3) pe_int) pa_nil))) pa_nil)) pa_nil)) (pa_cons (pv 2) pa_nil))))) (pss_cons (ps_if (PW.pt (pw_or (pt_not (pt_truth (pe_cl C_law_same (hr.mono (by decide)) hgd (by rfl) (pa_cons (pv 11) (pa_cons (pe_cl C_law_mul (hr.mono (by decide)) hgd (by rfl) (pa_cons (pe_cl C_law_add (hr.mono (by decide)) hgd (by rfl) (pa_cons (pv 10) (pa_cons (pe_tupF (pa_cons (pe_un un_neg pe_int) (pa_cons pe_int pa_nil))) pa_nil))) (pa_cons (pe_tupF (pa_cons (pv 2) (pa_cons pe_int pa_nil))) pa_nil))) pa_nil))) (fun _ => rfl))) (pw_or1 (pt_cmpR (r := rNeD K) (op_neD hr.units) (pe_cl C_returned (hr.mono (by decide)) hgd (by rfl) (pa_cons (pe_revT (pv 1)) (pa_cons (pv 4) (pa_cons (pv 2) pa_nil)))) (pv 8) (nomark _))))) pss_never pss_nil) (pss_cons (ps_set (i := 12) sc_law_slips_hold.nd rfl (Or.inl rfl) (pe_cl C_lines (hr.mono (by decide)) hgd (by rfl) (pa_cons (pv 1) (pa_cons (pv 4) (pa_cons (pv 2) pa_nil))))) (pss_cons (ps_if (PW.pt (pw_or (pt_cmpR (r := rNeD K) (op_neD hr.units) (pe_callB (r := rLenS K) call_len_seq (by rfl) B.len_ PySem.boot_len (pa_cons (pv 12) pa_nil)) (pv 9) (nomark _)) (pw_or1 (pt_cmpR (r := rNeD K) (op_neD hr.units) (pe_lc (own := [("row", 13)]) (g := _) (tt := tYes) rfl sc_law_slips_hold.nd (pi_tup (pv 12)) (blkOk_by (N := N_law_slips_hold) (sc := defScope s_law_slips_hold) (by decide +kernel)) (fun _ _ _ _ _ => (pg_name (i := 13) sc_law_slips_hold.nd rfl (by first | exact Or.inl rfl | exact Or.inr rfl))) (fun _ _ _ _ _ => pts_nil) (fun _ _ _ _ _ => (pe_ix (r := rIxT K) ix_tup (pv 13) pe_int (fun _ _ => rfl)))) (pe_lc (own := [("size", 14), ("row", 13)]) (g := _) (tt := tYes) rfl sc_law_slips_hold.nd (pi_list (pe_callB (r := rSortX K (eP PyData.int (eT PyData.int))) (cr_sortedX (Nat.lt_of_le_of_lt (Nat.add_le_add_left (by decide : 64 ≤ 64) _) hr.units)) (by rfl) B.sorted_ (by decide +kernel) (pa_cons (pe_lc (own := [("row", 13)]) (g := _) (tt := tYes) rfl sc_law_slips_hold.nd (pi_tup (pv 12)) (blkOk_by (N := N_law_slips_hold) (sc := defScope s_law_slips_hold) (by decide +kernel)) (fun _ _ _ _ _ => (pg_name (i := 13) sc_law_slips_hold.nd rfl (by first | exact Or.inl rfl | exact Or.inr rfl))) (fun _ _ _ _ _ => pts_nil) (fun _ _ _ _ _ => (pe_tupF (pa_cons (pe_callB (r := rLenS K) call_len_seq (by rfl) B.len_ PySem.boot_len (pa_cons (pe_ix (r := rIxT K) ix_tup (pv 13) pe_int (fun _ _ => rfl)) pa_nil)) (pa_cons (pe_ix (r := rIxT K) ix_tup (pv 13) pe_int (fun _ _ => rfl)) pa_nil))))) pa_nil))) (blkOk_by (N := N_law_slips_hold) (sc := defScope s_law_slips_hold) (by decide +kernel)) (fun _ _ _ _ _ => (pg_tupB (K := K) (n := 2) rfl rfl (pgs_cons (pg_name (i := 14) sc_law_slips_hold.nd rfl (by first | exact Or.inl rfl | exact Or.inr rfl)) (pgs_cons (pg_name (i := 13) sc_law_slips_hold.nd rfl (by first | exact Or.inl rfl | exact Or.inr rfl)) pgs_nil)))) (fun _ _ _ _ _ => pts_nil) (fun _ _ _ _ _ => (pv 13))) (nomark _))))) pss_never pss_nil) (pss_cons (ps_if (pt_cmpR (r := rNeD K) (op_neD hr.units) (pe_cl C_law_add (hr.mono (by decide)) hgd (by rfl) (pa_cons (pv 8) (pa_cons (pe_tupF (pa_cons (pe_op op_sub pe_int (pe_callB (r := rSumT K) (cr_sumT rfl) (by rfl) B.sum_ (by decide +kernel) (pa_cons (pe_lc (own := [("row", 13)]) (g := _) (tt := tYes) rfl sc_law_slips_hold.nd (pi_tup (pv 12)) (blkOk_by (N := N_law_slips_hold) (sc := defScope s_law_slips_hold) (by decide +kernel)) (fun _ _ _ _ _ => (pg_name (i := 13) sc_law_slips_hold.nd rfl (by first | exact Or.inl rfl | exact Or.inr rfl))) (fun _ _ _ _ _ => pts_nil) (fun _ _ _ _ _ => (pe_ix (r := rIxT K) ix_tup (pv 13) pe_int (fun _ _ => rfl)))) pa_nil))) (pa_cons pe_int pa_nil))) pa_nil))) (pe_cl C_rounding (hr.mono (by decide)) hgd (by rfl) (pa_cons (pv 1) (pa_cons (pv 4) (pa_cons (pv 2) pa_nil)))) (nomark _)) pss_never pss_nil) (pss_cons (ps_if (PW.pt (pw_and (pt_cmpR op_lt (pv 3) pe_int (nomark _)) (pw_and1 (pt_cmpR op_le (pe_ix (r := rIxT K) ix_tup (pv 4) (pe_un un_neg pe_int) (fun _ _ => rfl)) (pv 3) (nomark _))))) (pss_cons (ps_set (i := 15) sc_law_slips_hold.nd rfl (Or.inl rfl) (pe_op (r := rCatF K) op_catF (pv 1) (pe_tupF (pa_cons (pe_tupF (pa_cons (pe_tupF (pa_cons pe_int (pa_cons pe_int pa_nil))) (pa_cons pe_str pa_nil))) pa_nil)))) (pss_cons (ps_set (i := 16) sc_law_slips_hold.nd rfl (Or.inl rfl) (pe_cl C_law_products (hr.mono (by decide)) hgd (by rfl) (pa_cons (pe_lc (own := [("leg", 7)]) (g := _) (tt := tYes) rfl sc_law_slips_hold.nd (pi_tup (pv 15)) (blkOk_by (N := N_law_slips_hold) (sc := defScope s_law_slips_hold) (by decide +kernel)) (fun _ _ _ _ _ => (pg_name (i := 7) sc_law_slips_hold.nd rfl (by first | exact Or.inl rfl | exact Or.inr rfl))) (fun _ _ _ _ _ => pts_nil) (fun _ _ _ _ _ => (pe_cl C_law_factor (hr.mono (by decide)) hgd (by rfl) (pa_cons (pv 7) pa_nil)))) pa_nil))) (pss_one (ps_if (PW.pt (pw_or (pt_cmpR (r := rNeD K) (op_neD hr.units) (pe_cl C_returned (hr.mono (by decide)) hgd (by rfl) (pa_cons (pv 15) (pa_cons (pv 4) (pa_cons (pv 2) pa_nil)))) (pe_cl C_law_mul (hr.mono (by decide)) hgd (by rfl) (pa_cons (pe_cl C_law_sum (hr.mono (by decide)) hgd (by rfl) (pa_cons (pe_lc (own := [("k", 5)]) (g := _) (tt := tYes) rfl sc_law_slips_hold.nd (pi_tup (pv 4)) (blkOk_by (N := N_law_slips_hold) (sc := defScope s_law_slips_hold) (by decide +kernel)) (fun _ _ _ _ _ => (pg_name (i := 5) sc_law_slips_hold.nd rfl (by first | exact Or.inl rfl | exact Or.inr rfl))) (fun _ _ _ _ _ => pts_nil) (fun _ _ _ _ _ => (pe_cl C_law_add (hr.mono (by decide)) hgd (by rfl) (pa_cons (pe_ix (r := rIxL K) ix_list (pv 6) (pv 5) (fun _ _ => rfl)) (pa_cons (pe_ix (r := rIxL K) ix_list (pv 6) (pe_op op_sub (pv 5) pe_int) (fun _ _ => rfl)) pa_nil))))) pa_nil)) (pa_cons (pe_tupF (pa_cons (pv 2) (pa_cons pe_int pa_nil))) pa_nil))) (nomark _)) (pw_or1 (pt_cmpR (r := rNeD K) (op_neD hr.units) (pe_ix (r := rIxL K) ix_list (pv 16) pe_int (fun _ _ => rfl)) (pe_cl C_law_add (hr.mono (by decide)) hgd (by rfl) (pa_cons (pe_ix (r := rIxL K) ix_list (pv 6) pe_int (fun _ _ => rfl)) (pa_cons (pe_tupF (pa_cons pe_int (pa_cons pe_int pa_nil))) pa_nil))) (nomark _))))) pss_never pss_nil)))) pss_nil) (pss_cons (ps_set (i := 17) sc_law_slips_hold.nd rfl (Or.inr rfl) (pe_callTy (r := rTupOf K) call_tupleF (by rfl) B.tuple_ PyProof.Rows.boot_tuple (pa_cons (pe_lc (own := [("leg", 7)]) (g := _) (tt := tYes) rfl sc_law_slips_hold.nd (pi_tup (pv 1)) (blkOk_by (N := N_law_slips_hold) (sc := defScope s_law_slips_hold) (by decide +kernel)) (fun _ _ _ _ _ => (pg_name (i := 7) sc_law_slips_hold.nd rfl (by first | exact Or.inl rfl | exact Or.inr rfl))) (fun _ _ _ _ _ => pts_nil) (fun _ _ _ _ _ => (pe_cl C_law_q (hr.mono (by decide)) hgd (by rfl) (pa_cons (pe_op op_add pe_int (pe_cl C_law_draw (hr.mono (by decide)) hgd (by rfl) (pa_cons (pv 0) (pa_cons pe_int pa_nil)))) (pa_cons pe_int pa_nil))))) pa_nil))) (pss_cons (ps_set (i := 18) sc_law_slips_hold.nd rfl (Or.inr rfl) (pe_cl C_law_products (hr.mono (by decide)) hgd (by rfl) (pa_cons (pe_lc (own := [("k", 5)]) (g := _) (tt := tYes) rfl sc_law_slips_hold.nd (pi_range1 (by rfl) B.range_ (pa_cons (pv 3) pa_nil)) (blkOk_by (N := N_law_slips_hold) (sc := defScope s_law_slips_hold) (by decide +kernel)) (fun _ _ _ _ _ => (pg_name (i := 5) sc_law_slips_hold.nd rfl (by first | exact Or.inl rfl | exact Or.inr rfl))) (fun _ _ _ _ _ => pts_nil) (fun _ _ _ _ _ => (pe_cl C_law_mul (hr.mono (by decide)) hgd (by rfl) (pa_cons (pe_ix (r := rIxT K) ix_tup (pe_ix (r := rIxT K) ix_tup (pv 1) (pv 5) (fun _ _ => rfl)) pe_int (fun _ _ => rfl)) (pa_cons (pe_ix (r := rIxT K) ix_tup (pv 17) (pv 5) (fun _ _ => rfl)) pa_nil))))) pa_nil))) (pss_cons (ps_set (i := 19) sc_law_slips_hold.nd rfl (Or.inl rfl) (pe_tupF (pa_cons pe_int (pa_cons pe_int pa_nil)))) (pss_cons (ps_for PassesOwn.never rfl (pi_tup (pv 17)) (pg_name (i := 20) sc_law_slips_hold.nd rfl (Or.inl rfl)) (pss_one (ps_set (i := 19) sc_law_slips_hold.nd rfl (Or.inl rfl) (pe_cl C_law_mul (hr.mono (by decide)) hgd (by rfl) (pa_cons (pv 19) (pa_cons (pe_tupF (pa_cons (pe_ix (r := rIxT K) ix_tup (pv 20) pe_int (fun _ _ => rfl)) (pa_cons (pe_ix (r := rIxT K) ix_tup (pv 20) pe_int (fun _ _ => rfl)) pa_nil))) pa_nil)))))) (pss_cons (ps_if (pt_not (pt_truth (pe_cl C_law_same (hr.mono (by decide)) hgd (by rfl) (pa_cons (pe_lst (pa_cons (pe_cl C_mean_return (hr.mono (by decide)) hgd (by rfl) (pa_cons (pv 1) (pa_cons (pv 4) (pa_cons (pv 2) (pa_cons (pv 17) pa_nil))))) (pa_cons (pe_cl C_fair_price (hr.mono (by decide)) hgd (by rfl) (pa_cons (pv 17) pa_nil)) pa_nil))) (pa_cons (pe_lst (pa_cons (pe_cl C_law_mul (hr.mono (by decide)) hgd (by rfl) (pa_cons (pe_cl C_law_sum (hr.mono (by decide)) hgd (by rfl) (pa_cons (pe_lc (own := [("k", 5)]) (g := _) (tt := tYes) rfl sc_law_slips_hold.nd (pi_tup (pv 4)) (blkOk_by (N := N_law_slips_hold) (sc := defScope s_law_slips_hold) (by decide +kernel)) (fun _ _ _ _ _ => (pg_name (i := 5) sc_law_slips_hold.nd rfl (by first | exact Or.inl rfl | exact Or.inr rfl))) (fun _ _ _ _ _ => pts_nil) (fun _ _ _ _ _ => (pe_ix (r := rIxL K) ix_list (pv 18) (pv 5) (fun _ _ => rfl)))) pa_nil)) (pa_cons (pe_tupF (pa_cons (pv 2) (pa_cons pe_int pa_nil))) pa_nil))) (pa_cons (pv 19) pa_nil))) pa_nil))) (fun _ => rfl))) pss_never pss_nil) (pss_one (ps_ret (pe_cl C_law_same (hr.mono (by decide)) hgd (by rfl) (pa_cons (pe_cl C_least_winners (hr.mono (by decide)) hgd (by rfl) (pa_cons (pv 1) (pa_cons (pv 4) (pa_cons (pv 2) pa_nil)))) (pa_cons (pe_cl C_law_least (hr.mono (by decide)) hgd (by rfl) (pa_cons (pv 1) (pa_cons (pv 4) (pa_cons (pv 9) pa_nil)))) pa_nil))))))))))))))))))))))))), fun vs Q => fn_draws (N := N_law_slips_hold) (fun ds d h => ?_) (fun B S a ds Φ h D hR => ?_) vs H Q E0⟩), hm, F.kp, F.binds fun _ _ _ _ _ _ us hl => match us, hl with | [_], _ => rfl⟩
  · obtain ⟨rfl, hΦ⟩ := h; rfl
  · obtain ⟨rfl, hΦ⟩ := h; simp
  · obtain ⟨rfl, hΦ⟩ := h
    show Ss _ _ [.mu false a (.any StOk), .no, .no, .no, .no, .no, .no, .no, .no, .no, .no, .no, .no, .no, .no, .no, .no, .no, .no, .no, .no] _ _
    refine s_seq (s_asgGW (ws := [1, 2]) (ρ2 := fun q9 => [.mu false a (.any StOk), .da ((eT (eP eQ PyData.str)) (q9).1), .da (PyData.int (q9).2), .no, .no, .no, .no, .no, .no, .no, .no, .no, .no, .no, .no, .no, .no, .no, .no, .no, .no]) (ew_as (g := (eP (eT (eP eQ PyData.str)) PyData.int)) (R := (fun q8 => (fun z => LegsOk 10 z) q8.1 ∧ (fun z7 => ∃ x1 y2, (fun y => y = (1 : Int)) x1 ∧ (fun x => 0 ≤ x ∧ x < (1000 : Int)) y2 ∧ z7 = (fun _ y2 => ((1 : Int) + y2)) x1 y2) q8.2)) (ew_tup (ds := fun p : (List (Rat × Str)) × Int × Unit => [((eT (eP eQ PyData.str)) p.1), (PyData.int p.2.1)]) (n := 2) (ewa_cons (ew_callWD (i := 0) (e := (fun l : List (Rat × Str) => PyData.tuple (l.map (eP eQ PyData.str)))) (P3 := (fun z => LegsOk 10 z)) (ds := []) (ea_raw rfl ea_nil) rfl ⟨rfl, fun z hz => ⟨z, hz, rfl⟩⟩) (ewa_cons (ew_op (e := PyData.int) (F := (fun _ y2 => ((1 : Int) + y2))) (ew_det (f := PyData.int) (x := (1 : Int)) ed_int) (ew_drawD (i := 0) ed_int rfl rfl (by omega)) (fun x1 y2 hx3 hy4 _ _ _ ha5 hb6 => by subst hx3; exact (ed_I0 ha5 hb6))) ewa_nil)) (fun _ => rfl)) (fun p hp => ⟨(p.1, p.2.1), ⟨hp.1, hp.2.1⟩, rfl⟩)) (fun q9 hq10 => (eg_tup (egs_cons (eg_name (by simp)) (egs_cons (eg_name (by simp)) egs_nil)))) (fun q9 hq10 => ?_))
    obtain ⟨legs_v, stake_v⟩ := q9
    obtain ⟨h_legs_v, h_stake_v⟩ := hq10
    refine s_le (ρ1 := [.mu false a (.any StOk), .da ((eT (eP eQ PyData.str)) legs_v), .da (PyData.int stake_v), .no, .no, .no, .no, .no, .no, .no, .no, .no, .no, .no, .no, .no, .no, .no, .no, .no, .no]) (le_rfl rfl) ?_
    try dsimp only at h_legs_v
    try dsimp only at h_stake_v
    have hl0 : LegsOk 10 legs_v := h_legs_v
    have hst : 1 ≤ stake_v ∧ stake_v ≤ 1000 := by omega
    have hl1 := hl0.1
    have hl2 := hl0.2.1
    have hfb := legs_fb hl0
    have hfl : (legs_v.map facF).length = legs_v.length := List.length_map ..
    refine s_seq (s_asg (ed_lenTX (ed_var rfl)) (s_le (ρ1 := [.mu false a (.any StOk), .da ((eT (eP eQ PyData.str)) legs_v), .da (PyData.int stake_v), .da (PyData.int ((legs_v).length : Int)), .no, .no, .no, .no, .no, .no, .no, .no, .no, .no, .no, .no, .no, .no, .no, .no, .no]) (le_rfl rfl) ?_))
    refine s_seq (s_asgW (ew_imp (R := (fun l => l.Sublist (((rngX (1 : Int) (((legs_v).length : Int) + (1 : Int)))).map fun (x11 : Int) => x11))) (ew_cb1 (e := (fun l : List Int => PyData.tuple (l.map PyData.int))) (F := (fun x20 => x20)) (ew_L (el_lcF (xs := (rngX (1 : Int) (((legs_v).length : Int) + (1 : Int)))) (ea := fun (i : Int) => Itm.hard (PyData.int i)) (eb := PyData.int) (fb := fun (x11 : Int) => x11) (bp := fun (x11 : Int) => (fun z19 => ∃ x13 y14, (fun x => 0 ≤ x ∧ x < (2 : Int)) x13 ∧ (fun y => y = (0 : Int)) y14 ∧ z19 = (fun x13 _ => (decide (x13 = (0 : Int)))) x13 y14)) (ei_rngX2 ed_int (ed_I0 (ed_var rfl) ed_int) (by omega)) (by first | omega | (unfold rngX; rw [List.length_map, List.length_range]; omega) | (simp; omega) | (rw [(sortX_perm _ _).length_eq]; unfold lrOf; rw [List.length_map]; omega)) (by simp) (fun _ _ x11 hx12 => ⟨_, rfl, (eg_name (by simp)), (ewt_test (ew_op (e := PyData.bool) (F := (fun x13 _ => (decide (x13 = (0 : Int))))) (ew_drawD (i := 0) ed_int rfl rfl (by omega)) (ew_det (f := PyData.int) (x := (0 : Int)) ed_int) (fun x13 y14 hx15 hy16 _ _ _ ha17 hb18 => by subst hy16; exact (ed_eqI ha17 hb18)))), (ed_var rfl)⟩))) (fun x20 hx21 _ _ ha22 => (ed_tupleL ha22))) (fun _ ⟨_, h, e⟩ => by subst e; exact h)) (fun sizes_v h_sizes_v => s_le (ρ1 := [.mu false a (.any StOk), .da ((eT (eP eQ PyData.str)) legs_v), .da (PyData.int stake_v), .da (PyData.int ((legs_v).length : Int)), .da ((eT PyData.int) sizes_v), .no, .no, .no, .no, .no, .no, .no, .no, .no, .no, .no, .no, .no, .no, .no, .no]) (le_rfl rfl) ?_))
    try dsimp only at h_sizes_v
    obtain ⟨sizes_v1, h_sizes_v1⟩ : ∃ z : (List Int), z = (szF ((legs_v).length : Int) (sizes_v)) := ⟨_, rfl⟩
    refine s_seq (s_asgG (ws := [4, 6]) (ed_tup (ds := [((eT PyData.int) (szF ((legs_v).length : Int) (sizes_v))), ((eL eQ) (esF (((legs_v).map facF))))]) (ea_cons (ed_is (ed_ite (e := (eT PyData.int)) (et_truT (ed_var rfl)) (fun hb24 => (ed_var rfl)) (fun hb24 => (ed_tup (ds := [(PyData.int ((legs_v).length : Int))]) (ea_cons (ed_var rfl) ea_nil)))) (by rfl : _ = ((eT PyData.int) (szF ((legs_v).length : Int) (sizes_v))))) (ea_cons (ed_call (ds := [((eL eQ) ((legs_v).map facF))]) (ea_cons (ed_is (ed_L (el_lcAX (xs := legs_v) (ea := fun x => Itm.hard ((eP eQ PyData.str) x)) (enc := eQ) (fb := fun (x25 : (Rat × Str)) => (facF (x25))) (ei_tupX (ed_var rfl)) (by first | omega | (unfold rngX; rw [List.length_map, List.length_range]; omega) | (simp; omega) | (rw [(sortX_perm _ _).length_eq]; unfold lrOf; rw [List.length_map]; omega)) (by simp) (fun _ _ x25 hx25 => ⟨_, rfl, (eg_name (by simp)), (ed_call (ds := [((eP eQ PyData.str) x25)]) (ea_cons (ed_var rfl) ea_nil) ⟨x25, rfl, rfl⟩)⟩))) (by rfl : _ = ((eL eQ) ((legs_v).map facF)))) ea_nil) ⟨((legs_v).map facF), rfl, by exact ⟨hfb, by show (legs_v.map facF).length ≤ 11; omega⟩, rfl⟩) ea_nil))) (eg_tup (egs_cons (eg_name (by simp)) (egs_cons (eg_name (by simp)) egs_nil))) (s_le (ρ1 := [.mu false a (.any StOk), .da ((eT (eP eQ PyData.str)) legs_v), .da (PyData.int stake_v), .da (PyData.int ((legs_v).length : Int)), .da ((eT PyData.int) sizes_v1), .no, .da ((eL eQ) (esF (((legs_v).map facF)))), .no, .no, .no, .no, .no, .no, .no, .no, .no, .no, .no, .no, .no, .no]) (le_rfl (by subst h_sizes_v1; rfl)) ?_))
    have hsz : SzOk legs_v.length sizes_v1 := h_sizes_v1 ▸ szF_ok hl1 h_sizes_v
    have hsl := szOk_len hsz
    have hes := esF_len (legs_v.map facF)
    have hwl := whole_le hl2 hsz
    have hrq := ret_qk hl0 hsz hst
    have hdq := sumE_qk hfb (by omega) (sizes := sizes_v1) (by omega)
    have hll : (linesOf legs_v sizes_v1 stake_v).length ≤ 1024 * sizes_v1.length := lines_len hl0 stake_v sizes_v1
    have hs1 : 1 ≤ sizes_v1.length := List.length_pos_iff.mpr hsz.1
    have hlc := lines_cnt legs_v stake_v hsz
    have hpl := paid_le hl0 hsz hst
    refine s_seq (s_asg (ed_is (ed_is (ed_call (ds := [((eP PyData.int PyData.int) (qp (((true, ((sizes_v1).map fun (x26 : Int) => (ixG (esF (((legs_v).map facF))) x26)))).2.sum))), ((eP PyData.int PyData.int) (stake_v, (1 : Int)))]) (ea_cons (ed_is (ed_call (ds := [((eS eQ) (true, ((sizes_v1).map fun (x26 : Int) => (ixG (esF (((legs_v).map facF))) x26))))]) (ea_cons (ed_is (ed_L (el_lcAX (xs := sizes_v1) (ea := fun x => Itm.hard (PyData.int x)) (enc := eQ) (fb := fun (x26 : Int) => (ixG (esF (((legs_v).map facF))) x26)) (ei_tupX (ed_var rfl)) (by first | omega | (unfold rngX; rw [List.length_map, List.length_range]; omega) | (simp; omega) | (rw [(sortX_perm _ _).length_eq]; unfold lrOf; rw [List.length_map]; omega)) (by simp) (fun _ _ x26 hx26 => ⟨_, rfl, (eg_name (by simp)), (ed_ixLX (f := eQ) (l := (esF (((legs_v).map facF)))) (ed_var rfl) (ed_var rfl) (by exact inb (by have := szOk_ix hsz (by assumption); omega)))⟩))) (rfl : _ = ((eS eQ) (true, ((sizes_v1).map fun (x26 : Int) => (ixG (esF (((legs_v).map facF))) x26)))))) ea_nil) ⟨(true, ((sizes_v1).map fun (x26 : Int) => (ixG (esF (((legs_v).map facF))) x26))), rfl, by exact sum_pre hfb (by omega) (fun k hk => by have := szOk_ix hsz hk; omega) (by omega), rfl⟩) (rfl : _ = ((eP PyData.int PyData.int) (qp (((true, ((sizes_v1).map fun (x26 : Int) => (ixG (esF (((legs_v).map facF))) x26)))).2.sum))))) (ea_cons (ed_tup (ds := [(PyData.int stake_v), (PyData.int (1 : Int))]) (ea_cons (ed_var rfl) (ea_cons ed_int ea_nil))) ea_nil)) ⟨(qp (((true, ((sizes_v1).map fun (x26 : Int) => (ixG (esF (((legs_v).map facF))) x26)))).2.sum)), (stake_v, (1 : Int)), rfl, by exact due_pb hfl hfb hl2 hsz, by exact pb_small (by omega) (by decide) (by decide), rfl⟩) (by simp only [qv_qp] : _ = (eQ ((((true, ((sizes_v1).map fun (x26 : Int) => (ixG (esF (((legs_v).map facF))) x26)))).2.sum) * qv ((stake_v, (1 : Int))))))) (by exact congrArg eQ (by rw [qv_1]; exact congrArg (· * ((stake_v : Int) : Rat)) (due_sum hfl hsz)) : _ = (eQ (sumE ((legs_v).map facF) sizes_v1 * (((stake_v) : Int) : Rat))))) (s_le (ρ1 := [.mu false a (.any StOk), .da ((eT (eP eQ PyData.str)) legs_v), .da (PyData.int stake_v), .da (PyData.int ((legs_v).length : Int)), .da ((eT PyData.int) sizes_v1), .no, .da ((eL eQ) (esF (((legs_v).map facF)))), .no, .da (eQ (sumE ((legs_v).map facF) sizes_v1 * (((stake_v) : Int) : Rat))), .no, .no, .no, .no, .no, .no, .no, .no, .no, .no, .no, .no]) (le_rfl rfl) ?_))
    refine s_seq (s_asg (ed_is (ed_sumL (ed_L (el_lcAX (xs := sizes_v1) (ea := fun x => Itm.hard (PyData.int x)) (enc := PyData.int) (fb := fun (x27 : Int) => (chI (((legs_v).length : Int)) (x27))) (ei_tupX (ed_var rfl)) (by first | omega | (unfold rngX; rw [List.length_map, List.length_range]; omega) | (simp; omega) | (rw [(sortX_perm _ _).length_eq]; unfold lrOf; rw [List.length_map]; omega)) (by simp) (fun _ _ x27 hx27 => ⟨_, rfl, (eg_name (by simp)), (ed_call (ds := [(PyData.int ((legs_v).length : Int)), (PyData.int x27)]) (ea_cons (ed_var rfl) (ea_cons (ed_var rfl) ea_nil)) ⟨((legs_v).length : Int), x27, rfl, by omega, by have := szOk_ix hsz (by assumption); omega, rfl⟩)⟩)))) (by rfl : _ = (PyData.int (wholeC (legs_v).length sizes_v1)))) (s_le (ρ1 := [.mu false a (.any StOk), .da ((eT (eP eQ PyData.str)) legs_v), .da (PyData.int stake_v), .da (PyData.int ((legs_v).length : Int)), .da ((eT PyData.int) sizes_v1), .no, .da ((eL eQ) (esF (((legs_v).map facF)))), .no, .da (eQ (sumE ((legs_v).map facF) sizes_v1 * (((stake_v) : Int) : Rat))), .da (PyData.int (wholeC (legs_v).length sizes_v1)), .no, .no, .no, .no, .no, .no, .no, .no, .no, .no, .no]) (le_rfl rfl) ?_))
    refine s_seq (s_if (b := (!(true))) (et_not (et_truB (ed_call (ds := [((eL id) [(eQ (sumE ((legs_v).map facF) (sizes_v1) * (((stake_v) : Int) : Rat))), (PyData.int (((sizes_v1).map fun s => chI (((legs_v).length : Nat) : Int) s).sum)), (PyData.int ((stake_v) * ((sizes_v1).map fun s => chI (((legs_v).length : Nat) : Int) s).sum))]), ((eL id) [(eQ (sumE ((legs_v).map facF) sizes_v1 * (((stake_v) : Int) : Rat))), (PyData.int (wholeC (legs_v).length sizes_v1)), (PyData.int ((wholeC (legs_v).length sizes_v1) * stake_v))])]) (ea_cons (ed_L (el_lst (ds := [(eQ (sumE ((legs_v).map facF) (sizes_v1) * (((stake_v) : Int) : Rat))), (PyData.int (((sizes_v1).map fun s => chI (((legs_v).length : Nat) : Int) s).sum)), (PyData.int ((stake_v) * ((sizes_v1).map fun s => chI (((legs_v).length : Nat) : Int) s).sum))].map id) (ea_cons (ed_call (ds := [((eT (eP eQ PyData.str)) legs_v), ((eT PyData.int) sizes_v1), (PyData.int stake_v)]) (ea_cons (ed_var rfl) (ea_cons (ed_var rfl) (ea_cons (ed_var rfl) ea_nil))) ⟨legs_v, sizes_v1, stake_v, rfl, by assumption, by assumption, by assumption, rfl⟩) (ea_cons (ed_call (ds := [((eT (eP eQ PyData.str)) legs_v), ((eT PyData.int) sizes_v1)]) (ea_cons (ed_var rfl) (ea_cons (ed_var rfl) ea_nil)) ⟨legs_v, sizes_v1, rfl, by assumption, by assumption, rfl⟩) (ea_cons (ed_call (ds := [((eT (eP eQ PyData.str)) legs_v), ((eT PyData.int) sizes_v1), (PyData.int stake_v)]) (ea_cons (ed_var rfl) (ea_cons (ed_var rfl) (ea_cons (ed_var rfl) ea_nil))) ⟨legs_v, sizes_v1, stake_v, rfl, by assumption, by assumption, by assumption, rfl⟩) ea_nil))))) (ea_cons (ed_L (el_lst (ds := [(eQ (sumE ((legs_v).map facF) sizes_v1 * (((stake_v) : Int) : Rat))), (PyData.int (wholeC (legs_v).length sizes_v1)), (PyData.int ((wholeC (legs_v).length sizes_v1) * stake_v))].map id) (ea_cons (ed_var rfl) (ea_cons (ed_var rfl) (ea_cons (ed_I (ed_var rfl) (ed_var rfl) (by first | assumption | exact mul_l (by omega) (by omega) | exact mul_r (by omega) (by omega))) ea_nil))))) ea_nil)) ⟨((eL id) [(eQ (sumE ((legs_v).map facF) (sizes_v1) * (((stake_v) : Int) : Rat))), (PyData.int (((sizes_v1).map fun s => chI (((legs_v).length : Nat) : Int) s).sum)), (PyData.int ((stake_v) * ((sizes_v1).map fun s => chI (((legs_v).length : Nat) : Int) s).sum))]), ((eL id) [(eQ (sumE ((legs_v).map facF) sizes_v1 * (((stake_v) : Int) : Rat))), (PyData.int (wholeC (legs_v).length sizes_v1)), (PyData.int ((wholeC (legs_v).length sizes_v1) * stake_v))]), rfl, by rw [Int.mul_comm (wholeC legs_v.length sizes_v1) stake_v]; rfl, by exact slip_gd hrq (show (wholeC legs_v.length sizes_v1).natAbs < 2 ^ 64 by omega) (stake_whole hst hwl), rfl⟩))) (fun hc0 => ?_) (fun hc0 => ?_))
    · exact absurd hc0 (by simp)
    · refine s_next ?_
      refine s_seq (s_asg (ed_is (d1 := eQ (1 : Rat)) (ed_tup (ds := [PyData.int (1 : Int), PyData.int (1 : Int)]) (ea_cons ed_int (ea_cons ed_int ea_nil))) (by rfl)) (s_le (ρ1 := [.mu false a (.any StOk), .da ((eT (eP eQ PyData.str)) legs_v), .da (PyData.int stake_v), .da (PyData.int ((legs_v).length : Int)), .da ((eT PyData.int) sizes_v1), .no, .da ((eL eQ) (esF (((legs_v).map facF)))), .no, .da (eQ (sumE ((legs_v).map facF) sizes_v1 * (((stake_v) : Int) : Rat))), .da (PyData.int (wholeC (legs_v).length sizes_v1)), .da (eQ (1 : Rat)), .no, .no, .no, .no, .no, .no, .no, .no, .no, .no]) (le_rfl rfl) ?_))
      refine s_seq (s_forX (legs_v) (fun x => Itm.hard ((eP eQ PyData.str) x)) (ei_tupX (ed_var rfl)) (fun i0 => [.mu false a (.any StOk), .da ((eT (eP eQ PyData.str)) legs_v), .da (PyData.int stake_v), .da (PyData.int ((legs_v).length : Int)), .da ((eT PyData.int) sizes_v1), .no, .da ((eL eQ) (esF (((legs_v).map facF)))), .no, .da (eQ (sumE ((legs_v).map facF) sizes_v1 * (((stake_v) : Int) : Rat))), .da (PyData.int (wholeC (legs_v).length sizes_v1)), .da (eQ (prodQ ((legs_v.take (i0)).map fun l => facF l + 1))), .no, .no, .no, .no, .no, .no, .no, .no, .no, .no]) (le_same (le_same (le_same (le_same (le_same (le_no (le_same (le_no (le_same (le_same (le_da (by rfl) (le_no (le_no (le_no (le_no (le_no (le_no (le_no (le_no (le_no (le_no le_nil))))))))))))))))))))) (fun T0 hT0 i0 x0 hx0 => ⟨_, [7], (eg_name (by simp)), ?_⟩) ?_)
      · show Ss _ _ [.mu false a (.any StOk), .da ((eT (eP eQ PyData.str)) legs_v), .da (PyData.int stake_v), .da (PyData.int ((legs_v).length : Int)), .da ((eT PyData.int) sizes_v1), .no, .da ((eL eQ) (esF (((legs_v).map facF)))), .da ((eP eQ PyData.str) x0), .da (eQ (sumE ((legs_v).map facF) sizes_v1 * (((stake_v) : Int) : Rat))), .da (PyData.int (wholeC (legs_v).length sizes_v1)), .da (eQ (prodQ ((legs_v.take (i0)).map fun l => facF l + 1))), .no, .no, .no, .no, .no, .no, .no, .no, .no, .no] _ _
        have hlx := hl0.2.2 _ (List.mem_of_getElem? hx0)
        have hpq := prod1_qk hl0 i0
        refine (s_asg (ed_is (ed_call (ds := [((eP PyData.int PyData.int) (qp (prodQ ((legs_v.take (i0)).map fun l => facF l + 1)))), ((eP PyData.int PyData.int) (qp ((facF (x0)) + qv (((1 : Int), (1 : Int))))))]) (ea_cons (ed_is (ed_var rfl) (rfl : _ = ((eP PyData.int PyData.int) (qp (prodQ ((legs_v.take (i0)).map fun l => facF l + 1)))))) (ea_cons (ed_is (ed_is (ed_call (ds := [((eP PyData.int PyData.int) (qp (facF (x0)))), ((eP PyData.int PyData.int) ((1 : Int), (1 : Int)))]) (ea_cons (ed_is (ed_call (ds := [((eP eQ PyData.str) x0)]) (ea_cons (ed_var rfl) ea_nil) ⟨x0, rfl, rfl⟩) (rfl : _ = ((eP PyData.int PyData.int) (qp (facF (x0)))))) (ea_cons (ed_tup (ds := [(PyData.int (1 : Int)), (PyData.int (1 : Int))]) (ea_cons ed_int (ea_cons ed_int ea_nil))) ea_nil)) ⟨(qp (facF (x0))), ((1 : Int), (1 : Int)), rfl, by exact (((fac_fb hlx).qk (k := 30) (by decide) (by decide)).qb (by decide)).pb, by exact pb_small (by decide) (by decide) (by decide), rfl⟩) (by simp only [qv_qp] : _ = (eQ ((facF (x0)) + qv (((1 : Int), (1 : Int))))))) (rfl : _ = ((eP PyData.int PyData.int) (qp ((facF (x0)) + qv (((1 : Int), (1 : Int)))))))) ea_nil)) ⟨(qp (prodQ ((legs_v.take (i0)).map fun l => facF l + 1))), (qp ((facF (x0)) + qv (((1 : Int), (1 : Int))))), rfl, by exact (hpq.qb (by decide)).pb, by rw [qv_1]; exact (((fac1_fb hlx).qk (k := 30) (by decide) (by decide)).qb (by decide)).pb, rfl⟩) (by simp only [qv_qp] : _ = (eQ ((prodQ ((legs_v.take (i0)).map fun l => facF l + 1)) * ((facF (x0)) + qv (((1 : Int), (1 : Int)))))))) (s_le (ρ1 := [.mu false a (.any StOk), .da ((eT (eP eQ PyData.str)) legs_v), .da (PyData.int stake_v), .da (PyData.int ((legs_v).length : Int)), .da ((eT PyData.int) sizes_v1), .no, .da ((eL eQ) (esF (((legs_v).map facF)))), .da ((eP eQ PyData.str) x0), .da (eQ (sumE ((legs_v).map facF) sizes_v1 * (((stake_v) : Int) : Rat))), .da (PyData.int (wholeC (legs_v).length sizes_v1)), .da (eQ ((prodQ ((legs_v.take (i0)).map fun l => facF l + 1)) * ((facF (x0)) + qv (((1 : Int), (1 : Int)))))), .no, .no, .no, .no, .no, .no, .no, .no, .no, .no]) (le_rfl rfl) ?_))
        exact s_end (le_same (le_same (le_same (le_same (le_same (le_no (le_same (le_no (le_same (le_same (le_da (by exact congrArg eQ (prod1_step hx0)) (le_no (le_no (le_no (le_no (le_no (le_no (le_no (le_no (le_no (le_no le_nil)))))))))))))))))))))
      refine s_seq (s_asg (ed_call (ds := [((eT (eP eQ PyData.str)) legs_v), ((eT PyData.int) (rngX (1 : Int) (((legs_v).length : Int) + 1))), (PyData.int stake_v)]) (ea_cons (ed_var rfl) (ea_cons (ed_is (ed_tupleL (ed_L (el_listRng2 ed_int (ed_I0 (ed_var rfl) ed_int) (by omega) (by omega)))) (by rfl : _ = ((eT PyData.int) (rngX (1 : Int) (((legs_v).length : Int) + 1))))) (ea_cons (ed_var rfl) ea_nil))) ⟨legs_v, (rngX (1 : Int) (((legs_v).length : Int) + 1)), stake_v, rfl, by assumption, by exact rng_ok hl1, by assumption, rfl⟩) (s_le (ρ1 := [.mu false a (.any StOk), .da ((eT (eP eQ PyData.str)) legs_v), .da (PyData.int stake_v), .da (PyData.int ((legs_v).length : Int)), .da ((eT PyData.int) sizes_v1), .no, .da ((eL eQ) (esF (((legs_v).map facF)))), .no, .da (eQ (sumE ((legs_v).map facF) sizes_v1 * (((stake_v) : Int) : Rat))), .da (PyData.int (wholeC (legs_v).length sizes_v1)), .da (eQ (prodQ ((legs_v.take ((legs_v).length)).map fun l => facF l + 1))), .da (eQ (sumE ((legs_v).map facF) ((rngX (1 : Int) (((legs_v).length : Int) + 1))) * (((stake_v) : Int) : Rat))), .no, .no, .no, .no, .no, .no, .no, .no, .no]) (le_rfl rfl) ?_))
      refine s_seq (s_if (b := ((!(true)) || (!decide ((sumE (((legs_v).reverse).map facF) (sizes_v1) * (((stake_v) : Int) : Rat)) = (sumE ((legs_v).map facF) sizes_v1 * (((stake_v) : Int) : Rat)))))) (et_or (et_not (et_truB (ed_call (ds := [(eQ (sumE ((legs_v).map facF) ((rngX (1 : Int) (((legs_v).length : Int) + 1))) * (((stake_v) : Int) : Rat))), (eQ (((prodQ ((legs_v.take ((legs_v).length)).map fun l => facF l + 1)) + qv (((-(1 : Int)), (1 : Int)))) * qv ((stake_v, (1 : Int)))))]) (ea_cons (ed_var rfl) (ea_cons (ed_is (ed_call (ds := [((eP PyData.int PyData.int) (qp ((prodQ ((legs_v.take ((legs_v).length)).map fun l => facF l + 1)) + qv (((-(1 : Int)), (1 : Int)))))), ((eP PyData.int PyData.int) (stake_v, (1 : Int)))]) (ea_cons (ed_is (ed_is (ed_call (ds := [((eP PyData.int PyData.int) (qp (prodQ ((legs_v.take ((legs_v).length)).map fun l => facF l + 1)))), ((eP PyData.int PyData.int) ((-(1 : Int)), (1 : Int)))]) (ea_cons (ed_is (ed_var rfl) (rfl : _ = ((eP PyData.int PyData.int) (qp (prodQ ((legs_v.take ((legs_v).length)).map fun l => facF l + 1)))))) (ea_cons (ed_tup (ds := [(PyData.int (-(1 : Int))), (PyData.int (1 : Int))]) (ea_cons (ed_neg ed_int) (ea_cons ed_int ea_nil))) ea_nil)) ⟨(qp (prodQ ((legs_v.take ((legs_v).length)).map fun l => facF l + 1))), ((-(1 : Int)), (1 : Int)), rfl, by exact ((prod1_qk hl0 _).qb (by decide)).pb, by exact pb_small (by decide) (by decide) (by decide), rfl⟩) (by simp only [qv_qp] : _ = (eQ ((prodQ ((legs_v.take ((legs_v).length)).map fun l => facF l + 1)) + qv (((-(1 : Int)), (1 : Int))))))) (rfl : _ = ((eP PyData.int PyData.int) (qp ((prodQ ((legs_v.take ((legs_v).length)).map fun l => facF l + 1)) + qv (((-(1 : Int)), (1 : Int)))))))) (ea_cons (ed_tup (ds := [(PyData.int stake_v), (PyData.int (1 : Int))]) (ea_cons (ed_var rfl) (ea_cons ed_int ea_nil))) ea_nil)) ⟨(qp ((prodQ ((legs_v.take ((legs_v).length)).map fun l => facF l + 1)) + qv (((-(1 : Int)), (1 : Int))))), (stake_v, (1 : Int)), rfl, by exact ((every_qk hl0).qb (by decide)).pb, by exact pb_small (by omega) (by decide) (by decide), rfl⟩) (by simp only [qv_qp] : _ = (eQ (((prodQ ((legs_v.take ((legs_v).length)).map fun l => facF l + 1)) + qv (((-(1 : Int)), (1 : Int)))) * qv ((stake_v, (1 : Int))))))) ea_nil)) ⟨(eQ (sumE ((legs_v).map facF) ((rngX (1 : Int) (((legs_v).length : Int) + 1))) * (((stake_v) : Int) : Rat))), (eQ (((prodQ ((legs_v.take ((legs_v).length)).map fun l => facF l + 1)) + qv (((-(1 : Int)), (1 : Int)))) * qv ((stake_v, (1 : Int))))), rfl, by exact congrArg eQ every_eq, by exact ((ret_qk hl0 (rng_ok hl1) hst).gd (by decide)).mono (by decide) (by decide), rfl⟩))) (fun hb28 => (et_test (ed_neQ (ed_call (ds := [((eT (eP eQ PyData.str)) (legs_v).reverse), ((eT PyData.int) sizes_v1), (PyData.int stake_v)]) (ea_cons (ed_revT (ed_var rfl)) (ea_cons (ed_var rfl) (ea_cons (ed_var rfl) ea_nil))) ⟨(legs_v).reverse, sizes_v1, stake_v, rfl, by exact legsOk_rev hl0, by rw [List.length_reverse]; exact hsz, by assumption, rfl⟩) (ed_var rfl))))) (fun hc1 => ?_) (fun hc1 => ?_))
      · exact absurd hc1 (by rw [List.map_reverse, sumE_rev]; simp)
      · refine s_next ?_
        refine s_seq (s_asg (ed_call (ds := [((eT (eP eQ PyData.str)) legs_v), ((eT PyData.int) sizes_v1), (PyData.int stake_v)]) (ea_cons (ed_var rfl) (ea_cons (ed_var rfl) (ea_cons (ed_var rfl) ea_nil))) ⟨legs_v, sizes_v1, stake_v, rfl, by assumption, by assumption, by assumption, rfl⟩) (s_le (ρ1 := [.mu false a (.any StOk), .da ((eT (eP eQ PyData.str)) legs_v), .da (PyData.int stake_v), .da (PyData.int ((legs_v).length : Int)), .da ((eT PyData.int) sizes_v1), .no, .da ((eL eQ) (esF (((legs_v).map facF)))), .no, .da (eQ (sumE ((legs_v).map facF) sizes_v1 * (((stake_v) : Int) : Rat))), .da (PyData.int (wholeC (legs_v).length sizes_v1)), .da (eQ (prodQ ((legs_v.take ((legs_v).length)).map fun l => facF l + 1))), .da (eQ (sumE ((legs_v).map facF) ((rngX (1 : Int) (((legs_v).length : Int) + 1))) * (((stake_v) : Int) : Rat))), .da ((eT (eP (eT PyData.int) PyData.int)) (linesOf (legs_v) (sizes_v1) (stake_v))), .no, .no, .no, .no, .no, .no, .no, .no]) (le_rfl rfl) ?_))
        refine s_seq (s_if (b := ((!decide ((((linesOf (legs_v) (sizes_v1) (stake_v))).length : Int) = (wholeC (legs_v).length sizes_v1))) || (!PyData.eqv ((eL (eT PyData.int)) (((linesOf (legs_v) (sizes_v1) (stake_v))).map fun (x29 : ((List Int) × Int)) => (x29).1)) ((eL (eT PyData.int)) (((sortX (eP PyData.int (eT PyData.int)) (lrOf ((linesOf (legs_v) (sizes_v1) (stake_v)))))).map fun (x31 : (Int × (List Int))) => (x31).2))))) (et_or (et_test (ed_neI (ed_lenTX (ed_var rfl)) (ed_var rfl))) (fun hb32 => (et_test (ed_ne (ed_L (el_lcAX (xs := (linesOf (legs_v) (sizes_v1) (stake_v))) (ea := fun x => Itm.hard ((eP (eT PyData.int) PyData.int) x)) (enc := (fun l : List Int => PyData.tuple (l.map PyData.int))) (fb := fun (x29 : ((List Int) × Int)) => (x29).1) (ei_tupX (ed_var rfl)) (by first | omega | (unfold rngX; rw [List.length_map, List.length_range]; omega) | (simp; omega) | (rw [(sortX_perm _ _).length_eq]; unfold lrOf; rw [List.length_map]; omega)) (by simp) (fun _ _ x29 hx29 => ⟨_, rfl, (eg_name (by simp)), (ed_ixT (ed_var rfl) ed_int rfl)⟩))) (ed_L (el_lcAX (xs := (sortX (eP PyData.int (eT PyData.int)) (lrOf ((linesOf (legs_v) (sizes_v1) (stake_v)))))) (ea := fun x => Itm.hard ((eP PyData.int (eT PyData.int)) x)) (enc := (fun l : List Int => PyData.tuple (l.map PyData.int))) (fb := fun (x31 : (Int × (List Int))) => (x31).2) (ei_listX (ed_L (el_sortX (enc := (eP PyData.int (eT PyData.int))) (ed_is (ed_L (el_lcAX (xs := (linesOf (legs_v) (sizes_v1) (stake_v))) (ea := fun x => Itm.hard ((eP (eT PyData.int) PyData.int) x)) (enc := (eP PyData.int (eT PyData.int))) (fb := fun (x30 : ((List Int) × Int)) => ((((x30).1).length : Int), (x30).1)) (ei_tupX (ed_var rfl)) (by first | omega | (unfold rngX; rw [List.length_map, List.length_range]; omega) | (simp; omega) | (rw [(sortX_perm _ _).length_eq]; unfold lrOf; rw [List.length_map]; omega)) (by simp) (fun _ _ x30 hx30 => ⟨_, rfl, (eg_name (by simp)), (ed_tup (ds := [(PyData.int (((x30).1).length : Int)), ((eT PyData.int) (x30).1)]) (ea_cons (ed_lenTX (ed_ixT (ed_var rfl) ed_int rfl)) (ea_cons (ed_ixT (ed_var rfl) ed_int rfl) ea_nil)))⟩))) (by rfl : _ = ((eL (eP PyData.int (eT PyData.int))) (lrOf ((linesOf (legs_v) (sizes_v1) (stake_v))))))) (by exact lr_al _) (by exact lr_so _) (by exact fun p _ => lr_depth p)))) (by first | omega | (unfold rngX; rw [List.length_map, List.length_range]; omega) | (simp; omega) | (rw [(sortX_perm _ _).length_eq]; unfold lrOf; rw [List.length_map]; omega)) (by simp) (fun _ _ x31 hx31 => ⟨_, rfl, (eg_tup (egs_cons (eg_name (by simp)) (egs_cons (eg_name (by simp)) egs_nil))), (ed_var rfl)⟩))) (by exact shaped_LT _) (by exact shaped_LT _))))) (fun hc2 => ?_) (fun hc2 => ?_))
        · exact absurd hc2 (by rw [hlc, lr_same legs_v stake_v hsz]; simp)
        · refine s_next ?_
          refine s_seq (s_if (b := (!decide (((sumE ((legs_v).map facF) sizes_v1 * (((stake_v) : Int) : Rat)) + qv ((((0 : Int) - ((((linesOf (legs_v) (sizes_v1) (stake_v))).map fun (x33 : ((List Int) × Int)) => (x33).2)).sum), (1 : Int)))) = (sumE ((legs_v).map facF) (sizes_v1) * (((stake_v) : Int) : Rat) + ((-paidS (linesOf (legs_v) (sizes_v1) (stake_v)) : Int) : Rat))))) (et_test (ed_neQ (ed_is (ed_call (ds := [((eP PyData.int PyData.int) (qp (sumE ((legs_v).map facF) sizes_v1 * (((stake_v) : Int) : Rat)))), ((eP PyData.int PyData.int) (((0 : Int) - ((((linesOf (legs_v) (sizes_v1) (stake_v))).map fun (x33 : ((List Int) × Int)) => (x33).2)).sum), (1 : Int)))]) (ea_cons (ed_is (ed_var rfl) (rfl : _ = ((eP PyData.int PyData.int) (qp (sumE ((legs_v).map facF) sizes_v1 * (((stake_v) : Int) : Rat)))))) (ea_cons (ed_tup (ds := [(PyData.int ((0 : Int) - ((((linesOf (legs_v) (sizes_v1) (stake_v))).map fun (x33 : ((List Int) × Int)) => (x33).2)).sum)), (PyData.int (1 : Int))]) (ea_cons (ed_I0 ed_int (ed_sumL (ed_L (el_lcAX (xs := (linesOf (legs_v) (sizes_v1) (stake_v))) (ea := fun x => Itm.hard ((eP (eT PyData.int) PyData.int) x)) (enc := PyData.int) (fb := fun (x33 : ((List Int) × Int)) => (x33).2) (ei_tupX (ed_var rfl)) (by first | omega | (unfold rngX; rw [List.length_map, List.length_range]; omega) | (simp; omega) | (rw [(sortX_perm _ _).length_eq]; unfold lrOf; rw [List.length_map]; omega)) (by simp) (fun _ _ x33 hx33 => ⟨_, rfl, (eg_name (by simp)), (ed_ixT (ed_var rfl) ed_int rfl)⟩))))) (ea_cons ed_int ea_nil))) ea_nil)) ⟨(qp (sumE ((legs_v).map facF) sizes_v1 * (((stake_v) : Int) : Rat))), (((0 : Int) - ((((linesOf (legs_v) (sizes_v1) (stake_v))).map fun (x33 : ((List Int) × Int)) => (x33).2)).sum), (1 : Int)), rfl, by exact (hrq.qb (by decide)).pb, by exact paid_pb hpl, rfl⟩) (by simp only [qv_qp] : _ = (eQ ((sumE ((legs_v).map facF) sizes_v1 * (((stake_v) : Int) : Rat)) + qv ((((0 : Int) - ((((linesOf (legs_v) (sizes_v1) (stake_v))).map fun (x33 : ((List Int) × Int)) => (x33).2)).sum), (1 : Int))))))) (ed_call (ds := [((eT (eP eQ PyData.str)) legs_v), ((eT PyData.int) sizes_v1), (PyData.int stake_v)]) (ea_cons (ed_var rfl) (ea_cons (ed_var rfl) (ea_cons (ed_var rfl) ea_nil))) ⟨legs_v, sizes_v1, stake_v, rfl, by assumption, by assumption, by assumption, rfl⟩))) (fun hc3 => ?_) (fun hc3 => ?_))
          · exact absurd hc3 (by rw [paid_neg]; simp)
          · refine s_next ?_
            refine s_seq (s_ifJ (b := ((decide (((legs_v).length : Int) < (10 : Int))) && (decide ((ixG sizes_v1 (-1)) ≤ ((legs_v).length : Int))))) [.mu false a (.any StOk), .da ((eT (eP eQ PyData.str)) legs_v), .da (PyData.int stake_v), .da (PyData.int ((legs_v).length : Int)), .da ((eT PyData.int) sizes_v1), .no, .da ((eL eQ) (esF (((legs_v).map facF)))), .no, .da (eQ (sumE ((legs_v).map facF) sizes_v1 * (((stake_v) : Int) : Rat))), .da (PyData.int (wholeC (legs_v).length sizes_v1)), .da (eQ (prodQ ((legs_v.take ((legs_v).length)).map fun l => facF l + 1))), .da (eQ (sumE ((legs_v).map facF) ((rngX (1 : Int) (((legs_v).length : Int) + 1))) * (((stake_v) : Int) : Rat))), .da ((eT (eP (eT PyData.int) PyData.int)) (linesOf (legs_v) (sizes_v1) (stake_v))), .no, .no, .no, .no, .no, .no, .no, .no] (et_and (et_test (ed_B0 (ed_var rfl) ed_int)) (fun hb34 => (et_test (ed_B0 (ed_ixTX (f := PyData.int) (l := sizes_v1) (ed_var rfl) (ed_neg ed_int) (by exact ⟨by omega, by omega⟩)) (ed_var rfl))))) (fun hJ4 hc4 => ?_) (fun hJ4 hc4 => ?_) ?_)
            · have hlt : legs_v.length < 10 := by have := hc4; simp at this; omega
              refine s_seq (s_asg (ed_catT (f := (eP eQ PyData.str)) (l := legs_v) (m := [((3 : Rat), (Str.ofString "void"))]) (ed_var rfl) (ed_tup (ds := [((eP eQ PyData.str) ((3 : Rat), (Str.ofString "void")))]) (ea_cons (ed_tup (ds := [(eQ (3 : Rat)), (PyData.str (Str.ofString "void"))]) (ea_cons (ed_is (d1 := eQ (3 : Rat)) (ed_tup (ds := [PyData.int (3 : Int), PyData.int (1 : Int)]) (ea_cons ed_int (ea_cons ed_int ea_nil))) (by rfl)) (ea_cons ed_str ea_nil))) ea_nil)) (by simp; omega)) (s_le (ρ1 := [.mu false a (.any StOk), .da ((eT (eP eQ PyData.str)) legs_v), .da (PyData.int stake_v), .da (PyData.int ((legs_v).length : Int)), .da ((eT PyData.int) sizes_v1), .no, .da ((eL eQ) (esF (((legs_v).map facF)))), .no, .da (eQ (sumE ((legs_v).map facF) sizes_v1 * (((stake_v) : Int) : Rat))), .da (PyData.int (wholeC (legs_v).length sizes_v1)), .da (eQ (prodQ ((legs_v.take ((legs_v).length)).map fun l => facF l + 1))), .da (eQ (sumE ((legs_v).map facF) ((rngX (1 : Int) (((legs_v).length : Int) + 1))) * (((stake_v) : Int) : Rat))), .da ((eT (eP (eT PyData.int) PyData.int)) (linesOf (legs_v) (sizes_v1) (stake_v))), .no, .no, .da ((eT (eP eQ PyData.str)) (legs_v ++ [((3 : Rat), (Str.ofString "void"))])), .no, .no, .no, .no, .no]) (le_rfl rfl) ?_))
              refine s_seq (s_asg (ed_call (ds := [((eL eQ) (((legs_v ++ [((3 : Rat), (Str.ofString "void"))])).map facF))]) (ea_cons (ed_is (ed_L (el_lcAX (xs := (legs_v ++ [((3 : Rat), (Str.ofString "void"))])) (ea := fun x => Itm.hard ((eP eQ PyData.str) x)) (enc := eQ) (fb := fun (x35 : (Rat × Str)) => (facF (x35))) (ei_tupX (ed_var rfl)) (by first | omega | (unfold rngX; rw [List.length_map, List.length_range]; omega) | (simp; omega) | (rw [(sortX_perm _ _).length_eq]; unfold lrOf; rw [List.length_map]; omega)) (by simp) (fun _ _ x35 hx35 => ⟨_, rfl, (eg_name (by simp)), (ed_call (ds := [((eP eQ PyData.str) x35)]) (ea_cons (ed_var rfl) ea_nil) ⟨x35, rfl, rfl⟩)⟩))) (by rfl : _ = ((eL eQ) (((legs_v ++ [((3 : Rat), (Str.ofString "void"))])).map facF)))) ea_nil) ⟨(((legs_v ++ [((3 : Rat), (Str.ofString "void"))])).map facF), rfl, by exact ⟨legs_fb (legsOk_more hl0 hlt), by rw [List.length_map, List.length_append]; simp; omega⟩, rfl⟩) (s_le (ρ1 := [.mu false a (.any StOk), .da ((eT (eP eQ PyData.str)) legs_v), .da (PyData.int stake_v), .da (PyData.int ((legs_v).length : Int)), .da ((eT PyData.int) sizes_v1), .no, .da ((eL eQ) (esF (((legs_v).map facF)))), .no, .da (eQ (sumE ((legs_v).map facF) sizes_v1 * (((stake_v) : Int) : Rat))), .da (PyData.int (wholeC (legs_v).length sizes_v1)), .da (eQ (prodQ ((legs_v.take ((legs_v).length)).map fun l => facF l + 1))), .da (eQ (sumE ((legs_v).map facF) ((rngX (1 : Int) (((legs_v).length : Int) + 1))) * (((stake_v) : Int) : Rat))), .da ((eT (eP (eT PyData.int) PyData.int)) (linesOf (legs_v) (sizes_v1) (stake_v))), .no, .no, .da ((eT (eP eQ PyData.str)) (legs_v ++ [((3 : Rat), (Str.ofString "void"))])), .da ((eL eQ) (esF ((((legs_v ++ [((3 : Rat), (Str.ofString "void"))])).map facF)))), .no, .no, .no, .no]) (le_rfl rfl) ?_))
              refine (s_if (b := ((!decide ((sumE (((legs_v ++ [((3 : Rat), (Str.ofString "void"))])).map facF) (sizes_v1) * (((stake_v) : Int) : Rat)) = ((((true, ((sizes_v1).map fun (x36 : Int) => ((ixG (esF (((legs_v).map facF))) x36) + (ixG (esF (((legs_v).map facF))) (x36 - (1 : Int))))))).2.sum) * qv ((stake_v, (1 : Int)))))) || (!decide ((ixG (esF ((((legs_v ++ [((3 : Rat), (Str.ofString "void"))])).map facF))) (1 : Int)) = ((ixG (esF (((legs_v).map facF))) (1 : Int)) + qv (((1 : Int), (1 : Int)))))))) (et_or (et_test (ed_neQ (ed_call (ds := [((eT (eP eQ PyData.str)) (legs_v ++ [((3 : Rat), (Str.ofString "void"))])), ((eT PyData.int) sizes_v1), (PyData.int stake_v)]) (ea_cons (ed_var rfl) (ea_cons (ed_var rfl) (ea_cons (ed_var rfl) ea_nil))) ⟨(legs_v ++ [((3 : Rat), (Str.ofString "void"))]), sizes_v1, stake_v, rfl, by exact legsOk_more hl0 hlt, by rw [List.length_append]; exact szOk_up hsz, by assumption, rfl⟩) (ed_is (ed_call (ds := [((eP PyData.int PyData.int) (qp (((true, ((sizes_v1).map fun (x36 : Int) => ((ixG (esF (((legs_v).map facF))) x36) + (ixG (esF (((legs_v).map facF))) (x36 - (1 : Int))))))).2.sum))), ((eP PyData.int PyData.int) (stake_v, (1 : Int)))]) (ea_cons (ed_is (ed_call (ds := [((eS eQ) (true, ((sizes_v1).map fun (x36 : Int) => ((ixG (esF (((legs_v).map facF))) x36) + (ixG (esF (((legs_v).map facF))) (x36 - (1 : Int)))))))]) (ea_cons (ed_is (ed_L (el_lcAX (xs := sizes_v1) (ea := fun x => Itm.hard (PyData.int x)) (enc := eQ) (fb := fun (x36 : Int) => ((ixG (esF (((legs_v).map facF))) x36) + (ixG (esF (((legs_v).map facF))) (x36 - (1 : Int))))) (ei_tupX (ed_var rfl)) (by first | omega | (unfold rngX; rw [List.length_map, List.length_range]; omega) | (simp; omega) | (rw [(sortX_perm _ _).length_eq]; unfold lrOf; rw [List.length_map]; omega)) (by simp) (fun _ _ x36 hx36 => ⟨_, rfl, (eg_name (by simp)), (ed_is (ed_call (ds := [((eP PyData.int PyData.int) (qp (ixG (esF (((legs_v).map facF))) x36))), ((eP PyData.int PyData.int) (qp (ixG (esF (((legs_v).map facF))) (x36 - (1 : Int)))))]) (ea_cons (ed_is (ed_ixLX (f := eQ) (l := (esF (((legs_v).map facF)))) (ed_var rfl) (ed_var rfl) (by exact inb (by have := hsz.2.2 _ (by assumption); omega))) (rfl : _ = ((eP PyData.int PyData.int) (qp (ixG (esF (((legs_v).map facF))) x36))))) (ea_cons (ed_is (ed_ixLX (f := eQ) (l := (esF (((legs_v).map facF)))) (ed_var rfl) (ed_I0 (ed_var rfl) ed_int) (by exact inb (by have := hsz.2.2 _ (by assumption); omega))) (rfl : _ = ((eP PyData.int PyData.int) (qp (ixG (esF (((legs_v).map facF))) (x36 - (1 : Int))))))) ea_nil)) ⟨(qp (ixG (esF (((legs_v).map facF))) x36)), (qp (ixG (esF (((legs_v).map facF))) (x36 - (1 : Int)))), rfl, by exact ((row_qk hfl hfb hl2 (by have := szOk_ix hsz (by assumption); omega)).qb (by decide)).pb, by exact ((row_qk hfl hfb hl2 (by have := hsz.2.2 _ (by assumption); omega)).qb (by decide)).pb, rfl⟩) (by simp only [qv_qp] : _ = (eQ ((ixG (esF (((legs_v).map facF))) x36) + (ixG (esF (((legs_v).map facF))) (x36 - (1 : Int)))))))⟩))) (rfl : _ = ((eS eQ) (true, ((sizes_v1).map fun (x36 : Int) => ((ixG (esF (((legs_v).map facF))) x36) + (ixG (esF (((legs_v).map facF))) (x36 - (1 : Int))))))))) ea_nil) ⟨(true, ((sizes_v1).map fun (x36 : Int) => ((ixG (esF (((legs_v).map facF))) x36) + (ixG (esF (((legs_v).map facF))) (x36 - (1 : Int)))))), rfl, by exact more_pre hfl hfb hl2 hsz, rfl⟩) (rfl : _ = ((eP PyData.int PyData.int) (qp (((true, ((sizes_v1).map fun (x36 : Int) => ((ixG (esF (((legs_v).map facF))) x36) + (ixG (esF (((legs_v).map facF))) (x36 - (1 : Int))))))).2.sum))))) (ea_cons (ed_tup (ds := [(PyData.int stake_v), (PyData.int (1 : Int))]) (ea_cons (ed_var rfl) (ea_cons ed_int ea_nil))) ea_nil)) ⟨(qp (((true, ((sizes_v1).map fun (x36 : Int) => ((ixG (esF (((legs_v).map facF))) x36) + (ixG (esF (((legs_v).map facF))) (x36 - (1 : Int))))))).2.sum)), (stake_v, (1 : Int)), rfl, by exact more_pb hl0 hlt hsz, by exact pb_small (by omega) (by decide) (by decide), rfl⟩) (by simp only [qv_qp] : _ = (eQ ((((true, ((sizes_v1).map fun (x36 : Int) => ((ixG (esF (((legs_v).map facF))) x36) + (ixG (esF (((legs_v).map facF))) (x36 - (1 : Int))))))).2.sum) * qv ((stake_v, (1 : Int))))))))) (fun hb37 => (et_test (ed_neQ (ed_ixLX (f := eQ) (l := (esF ((((legs_v ++ [((3 : Rat), (Str.ofString "void"))])).map facF)))) (ed_var rfl) ed_int (by exact inb (by rw [esF_len, List.length_map]; simp; omega))) (ed_is (ed_call (ds := [((eP PyData.int PyData.int) (qp (ixG (esF (((legs_v).map facF))) (1 : Int)))), ((eP PyData.int PyData.int) ((1 : Int), (1 : Int)))]) (ea_cons (ed_is (ed_ixLX (f := eQ) (l := (esF (((legs_v).map facF)))) (ed_var rfl) ed_int (by exact inb (by omega))) (rfl : _ = ((eP PyData.int PyData.int) (qp (ixG (esF (((legs_v).map facF))) (1 : Int)))))) (ea_cons (ed_tup (ds := [(PyData.int (1 : Int)), (PyData.int (1 : Int))]) (ea_cons ed_int (ea_cons ed_int ea_nil))) ea_nil)) ⟨(qp (ixG (esF (((legs_v).map facF))) (1 : Int))), ((1 : Int), (1 : Int)), rfl, by exact ((row_qk hfl hfb hl2 (by omega)).qb (by decide)).pb, by exact pb_small (by decide) (by decide) (by decide), rfl⟩) (by simp only [qv_qp] : _ = (eQ ((ixG (esF (((legs_v).map facF))) (1 : Int)) + qv (((1 : Int), (1 : Int))))))))))) (fun hc5 => ?_) (fun hc5 => ?_))
              · exact absurd hc5 (by rw [more_eq hsz, more_one hl1]; simp)
              · refine s_next ?_
                exact s_le (le_same (le_same (le_same (le_same (le_same (le_no (le_same (le_no (le_same (le_same (le_same (le_same (le_same (le_no (le_no (le_no (le_no (le_no (le_no (le_no (le_no le_nil))))))))))))))))))))) hJ4
            · refine s_next ?_
              exact s_le (le_same (le_same (le_same (le_same (le_same (le_no (le_same (le_no (le_same (le_same (le_same (le_same (le_same (le_no (le_no (le_no (le_no (le_no (le_no (le_no (le_no le_nil))))))))))))))))))))) hJ4
            refine s_seq (s_asgW (ew_imp (R := (fun l => Fa (fun (x38 : (Rat × Str)) z => (fun z => ∃ (x47 : Int × Int × Unit), ((fun z46 => ∃ x40 y41, (fun y => y = (1 : Int)) x40 ∧ (fun x => 0 ≤ x ∧ x < (9 : Int)) y41 ∧ z46 = (fun _ y41 => ((1 : Int) + y41)) x40 y41) x47.1 ∧ (fun y => y = (10 : Int)) x47.2.1 ∧ True) ∧ z = (Rat.divInt (x47.1) ((10 : Int)))) z) legs_v l)) (ew_cb1 (e := (fun l : List Rat => PyData.tuple (l.map eQ))) (F := (fun x49 => x49)) (ew_L (el_lcW1 (xs := legs_v) (ea := fun x => Itm.hard ((eP eQ PyData.str) x)) (eb := eQ) (R := fun (x38 : (Rat × Str)) z => (fun z => ∃ (x47 : Int × Int × Unit), ((fun z46 => ∃ x40 y41, (fun y => y = (1 : Int)) x40 ∧ (fun x => 0 ≤ x ∧ x < (9 : Int)) y41 ∧ z46 = (fun _ y41 => ((1 : Int) + y41)) x40 y41) x47.1 ∧ (fun y => y = (10 : Int)) x47.2.1 ∧ True) ∧ z = (Rat.divInt (x47.1) ((10 : Int)))) z) (ei_tupX (ed_var rfl)) (by first | omega | (unfold rngX; rw [List.length_map, List.length_range]; omega) | (simp; omega) | (rw [(sortX_perm _ _).length_eq]; unfold lrOf; rw [List.length_map]; omega)) (by simp) (fun _ _ x38 hx39 => ⟨_, rfl, (eg_name (by simp)), (ew_call (e := eQ) (F := (fun (x47 : Int × Int × Unit) => (Rat.divInt (x47.1) ((10 : Int))))) (ds := fun (x47 : Int × Int × Unit) => [(PyData.int x47.1), (PyData.int x47.2.1)]) (ewa_cons (ew_op (e := PyData.int) (F := (fun _ y41 => ((1 : Int) + y41))) (ew_det (f := PyData.int) (x := (1 : Int)) ed_int) (ew_drawD (i := 0) ed_int rfl rfl (by omega)) (fun x40 y41 hx42 hy43 _ _ _ ha44 hb45 => by subst hx42; exact (ed_I0 ha44 hb45))) (ewa_cons (ew_det (f := PyData.int) (x := (10 : Int)) ed_int) ewa_nil)) (fun x47 hx48 => by have e1 := hx48.2.1; (try dsimp only at e1); exact ⟨x47.1, x47.2.1, rfl, by omega, by exact small_lt (by omega), by simp only [e1]⟩))⟩))) (fun x49 hx50 _ _ ha51 => (ed_tupleL ha51))) (fun _ ⟨_, h, e⟩ => by subst e; exact h)) (fun chances_v h_chances_v => s_le (ρ1 := [.mu false a (.any StOk), .da ((eT (eP eQ PyData.str)) legs_v), .da (PyData.int stake_v), .da (PyData.int ((legs_v).length : Int)), .da ((eT PyData.int) sizes_v1), .no, .da ((eL eQ) (esF (((legs_v).map facF)))), .no, .da (eQ (sumE ((legs_v).map facF) sizes_v1 * (((stake_v) : Int) : Rat))), .da (PyData.int (wholeC (legs_v).length sizes_v1)), .da (eQ (prodQ ((legs_v.take ((legs_v).length)).map fun l => facF l + 1))), .da (eQ (sumE ((legs_v).map facF) ((rngX (1 : Int) (((legs_v).length : Int) + 1))) * (((stake_v) : Int) : Rat))), .da ((eT (eP (eT PyData.int) PyData.int)) (linesOf (legs_v) (sizes_v1) (stake_v))), .no, .no, .no, .no, .da ((eT eQ) chances_v), .no, .no, .no]) (le_rfl rfl) ?_))
            try dsimp only at h_chances_v
            have hch := chs_made h_chances_v (fun x z hz => by obtain ⟨y, ⟨⟨a, b, ha, hb, e⟩, _⟩, hz⟩ := hz; exact ⟨b, hb, by rw [hz, e]⟩)
            have hmf := mean_fb hl0 hch
            have hml := mean_len hl0 hch
            refine s_seq (s_asg (ed_call (ds := [((eL eQ) (meanF legs_v chances_v))]) (ea_cons (ed_is (ed_L (el_lcAX (xs := (List.range (((legs_v).length : Int)).toNat)) (ea := fun (i : Nat) => Itm.hard (PyData.int (i : Int))) (enc := eQ) (fb := fun (x53 : Nat) => ((((ixG legs_v (x53 : Int))).1) * (ixG chances_v (x53 : Int)))) (ei_rng (ed_var rfl) (by omega)) (by first | omega | (unfold rngX; rw [List.length_map, List.length_range]; omega) | (simp; omega) | (rw [(sortX_perm _ _).length_eq]; unfold lrOf; rw [List.length_map]; omega)) (by simp) (fun _ _ x53 hx53 => ⟨_, rfl, (eg_name (by simp)), (ed_is (ed_call (ds := [((eP PyData.int PyData.int) (qp (((ixG legs_v (x53 : Int))).1))), ((eP PyData.int PyData.int) (qp (ixG chances_v (x53 : Int))))]) (ea_cons (ed_is (ed_ixT (ed_ixTX (f := (eP eQ PyData.str)) (l := legs_v) (ed_var rfl) (ed_var rfl) (by exact inb (by have := List.mem_range.mp (by assumption); omega))) ed_int rfl) (rfl : _ = ((eP PyData.int PyData.int) (qp (((ixG legs_v (x53 : Int))).1))))) (ea_cons (ed_is (ed_ixTX (f := eQ) (l := chances_v) (ed_var rfl) (ed_var rfl) (by exact inb (by have := List.mem_range.mp (by assumption); have := hch.1; omega))) (rfl : _ = ((eP PyData.int PyData.int) (qp (ixG chances_v (x53 : Int)))))) ea_nil)) ⟨(qp (((ixG legs_v (x53 : Int))).1)), (qp (ixG chances_v (x53 : Int))), rfl, by exact (((leg_fb (hl0.2.2 _ (ixG_mem (by have := List.mem_range.mp (by assumption); omega)))).qk (k := 30) (by decide) (by decide)).qb (by decide)).pb, by exact (((ch_fb (hch.2 _ (ixG_mem (by have := List.mem_range.mp (by assumption); have := hch.1; omega))).1).qk (k := 30) (by decide) (by decide)).qb (by decide)).pb, rfl⟩) (by simp only [qv_qp] : _ = (eQ ((((ixG legs_v (x53 : Int))).1) * (ixG chances_v (x53 : Int))))))⟩))) (by exact congrArg (eL eQ) (mean_rng hl0 hch (by simp)) : _ = ((eL eQ) (meanF legs_v chances_v)))) ea_nil) ⟨(meanF legs_v chances_v), rfl, by exact ⟨hmf, by show (meanF legs_v chances_v).length ≤ 11; omega⟩, rfl⟩) (s_le (ρ1 := [.mu false a (.any StOk), .da ((eT (eP eQ PyData.str)) legs_v), .da (PyData.int stake_v), .da (PyData.int ((legs_v).length : Int)), .da ((eT PyData.int) sizes_v1), .no, .da ((eL eQ) (esF (((legs_v).map facF)))), .no, .da (eQ (sumE ((legs_v).map facF) sizes_v1 * (((stake_v) : Int) : Rat))), .da (PyData.int (wholeC (legs_v).length sizes_v1)), .da (eQ (prodQ ((legs_v.take ((legs_v).length)).map fun l => facF l + 1))), .da (eQ (sumE ((legs_v).map facF) ((rngX (1 : Int) (((legs_v).length : Int) + 1))) * (((stake_v) : Int) : Rat))), .da ((eT (eP (eT PyData.int) PyData.int)) (linesOf (legs_v) (sizes_v1) (stake_v))), .no, .no, .no, .no, .da ((eT eQ) chances_v), .da ((eL eQ) (esF ((meanF legs_v chances_v)))), .no, .no]) (le_rfl rfl) ?_))
            refine s_seq (s_asg (ed_is (d1 := eQ (1 : Rat)) (ed_tup (ds := [PyData.int (1 : Int), PyData.int (1 : Int)]) (ea_cons ed_int (ea_cons ed_int ea_nil))) (by rfl)) (s_le (ρ1 := [.mu false a (.any StOk), .da ((eT (eP eQ PyData.str)) legs_v), .da (PyData.int stake_v), .da (PyData.int ((legs_v).length : Int)), .da ((eT PyData.int) sizes_v1), .no, .da ((eL eQ) (esF (((legs_v).map facF)))), .no, .da (eQ (sumE ((legs_v).map facF) sizes_v1 * (((stake_v) : Int) : Rat))), .da (PyData.int (wholeC (legs_v).length sizes_v1)), .da (eQ (prodQ ((legs_v.take ((legs_v).length)).map fun l => facF l + 1))), .da (eQ (sumE ((legs_v).map facF) ((rngX (1 : Int) (((legs_v).length : Int) + 1))) * (((stake_v) : Int) : Rat))), .da ((eT (eP (eT PyData.int) PyData.int)) (linesOf (legs_v) (sizes_v1) (stake_v))), .no, .no, .no, .no, .da ((eT eQ) chances_v), .da ((eL eQ) (esF ((meanF legs_v chances_v)))), .da (eQ (1 : Rat)), .no]) (le_rfl rfl) ?_))
            refine s_seq (s_forX (chances_v) (fun x => Itm.hard (eQ x)) (ei_tupX (ed_var rfl)) (fun i1 => [.mu false a (.any StOk), .da ((eT (eP eQ PyData.str)) legs_v), .da (PyData.int stake_v), .da (PyData.int ((legs_v).length : Int)), .da ((eT PyData.int) sizes_v1), .no, .da ((eL eQ) (esF (((legs_v).map facF)))), .no, .da (eQ (sumE ((legs_v).map facF) sizes_v1 * (((stake_v) : Int) : Rat))), .da (PyData.int (wholeC (legs_v).length sizes_v1)), .da (eQ (prodQ ((legs_v.take ((legs_v).length)).map fun l => facF l + 1))), .da (eQ (sumE ((legs_v).map facF) ((rngX (1 : Int) (((legs_v).length : Int) + 1))) * (((stake_v) : Int) : Rat))), .da ((eT (eP (eT PyData.int) PyData.int)) (linesOf (legs_v) (sizes_v1) (stake_v))), .no, .no, .no, .no, .da ((eT eQ) chances_v), .da ((eL eQ) (esF ((meanF legs_v chances_v)))), .da (eQ ((prodQ (chances_v.take (i1)))⁻¹)), .no]) (le_same (le_same (le_same (le_same (le_same (le_no (le_same (le_no (le_same (le_same (le_same (le_same (le_same (le_no (le_no (le_no (le_no (le_same (le_same (le_da (by exact congrArg eQ (price_init _)) (le_no le_nil))))))))))))))))))))) (fun T1 hT1 i1 x1 hx1 => ⟨_, [20], (eg_name (by simp)), ?_⟩) ?_)
            · show Ss _ _ [.mu false a (.any StOk), .da ((eT (eP eQ PyData.str)) legs_v), .da (PyData.int stake_v), .da (PyData.int ((legs_v).length : Int)), .da ((eT PyData.int) sizes_v1), .no, .da ((eL eQ) (esF (((legs_v).map facF)))), .no, .da (eQ (sumE ((legs_v).map facF) sizes_v1 * (((stake_v) : Int) : Rat))), .da (PyData.int (wholeC (legs_v).length sizes_v1)), .da (eQ (prodQ ((legs_v.take ((legs_v).length)).map fun l => facF l + 1))), .da (eQ (sumE ((legs_v).map facF) ((rngX (1 : Int) (((legs_v).length : Int) + 1))) * (((stake_v) : Int) : Rat))), .da ((eT (eP (eT PyData.int) PyData.int)) (linesOf (legs_v) (sizes_v1) (stake_v))), .no, .no, .no, .no, .da ((eT eQ) chances_v), .da ((eL eQ) (esF ((meanF legs_v chances_v)))), .da (eQ ((prodQ (chances_v.take (i1)))⁻¹)), .da (eQ x1)] _ _
              have hcx := hch.2 _ (List.mem_of_getElem? hx1)
              have hpq := price_qk hl2 hch i1
              refine (s_asg (ed_is (ed_call (ds := [((eP PyData.int PyData.int) (qp ((prodQ (chances_v.take (i1)))⁻¹))), ((eP PyData.int PyData.int) (((x1).den : Int), (x1).num))]) (ea_cons (ed_is (ed_var rfl) (rfl : _ = ((eP PyData.int PyData.int) (qp ((prodQ (chances_v.take (i1)))⁻¹))))) (ea_cons (ed_tup (ds := [(PyData.int ((x1).den : Int)), (PyData.int (x1).num)]) (ea_cons (ed_ixT (ed_var rfl) ed_int rfl) (ea_cons (ed_ixT (ed_var rfl) ed_int rfl) ea_nil))) ea_nil)) ⟨(qp ((prodQ (chances_v.take (i1)))⁻¹)), (((x1).den : Int), (x1).num), rfl, by exact (hpq.qb (by decide)).pb, by exact ch_pb hcx, rfl⟩) (by simp only [qv_qp] : _ = (eQ (((prodQ (chances_v.take (i1)))⁻¹) * qv ((((x1).den : Int), (x1).num)))))) (s_le (ρ1 := [.mu false a (.any StOk), .da ((eT (eP eQ PyData.str)) legs_v), .da (PyData.int stake_v), .da (PyData.int ((legs_v).length : Int)), .da ((eT PyData.int) sizes_v1), .no, .da ((eL eQ) (esF (((legs_v).map facF)))), .no, .da (eQ (sumE ((legs_v).map facF) sizes_v1 * (((stake_v) : Int) : Rat))), .da (PyData.int (wholeC (legs_v).length sizes_v1)), .da (eQ (prodQ ((legs_v.take ((legs_v).length)).map fun l => facF l + 1))), .da (eQ (sumE ((legs_v).map facF) ((rngX (1 : Int) (((legs_v).length : Int) + 1))) * (((stake_v) : Int) : Rat))), .da ((eT (eP (eT PyData.int) PyData.int)) (linesOf (legs_v) (sizes_v1) (stake_v))), .no, .no, .no, .no, .da ((eT eQ) chances_v), .da ((eL eQ) (esF ((meanF legs_v chances_v)))), .da (eQ (((prodQ (chances_v.take (i1)))⁻¹) * qv ((((x1).den : Int), (x1).num)))), .da (eQ x1)]) (le_rfl rfl) ?_))
              exact s_end (le_same (le_same (le_same (le_same (le_same (le_no (le_same (le_no (le_same (le_same (le_same (le_same (le_same (le_no (le_no (le_no (le_no (le_same (le_same (le_da (by exact congrArg eQ (price_step hx1)) (le_no le_nil)))))))))))))))))))))
            refine s_seq (s_if (b := (!(true))) (et_not (et_truB (ed_call (ds := [((eL eQ) [(sumE (meanF (legs_v) (chances_v)) (sizes_v1) * (((stake_v) : Int) : Rat)), ((prodQ (chances_v))⁻¹)]), ((eL eQ) [((((true, ((sizes_v1).map fun (x54 : Int) => (ixG (esF ((meanF legs_v chances_v))) x54)))).2.sum) * qv ((stake_v, (1 : Int)))), ((prodQ (chances_v.take ((chances_v).length)))⁻¹)])]) (ea_cons (ed_L (el_lst (ds := [(sumE (meanF (legs_v) (chances_v)) (sizes_v1) * (((stake_v) : Int) : Rat)), ((prodQ (chances_v))⁻¹)].map eQ) (ea_cons (ed_call (ds := [((eT (eP eQ PyData.str)) legs_v), ((eT PyData.int) sizes_v1), (PyData.int stake_v), ((eT eQ) chances_v)]) (ea_cons (ed_var rfl) (ea_cons (ed_var rfl) (ea_cons (ed_var rfl) (ea_cons (ed_var rfl) ea_nil)))) ⟨legs_v, sizes_v1, stake_v, chances_v, rfl, by assumption, by assumption, by assumption, by assumption, rfl⟩) (ea_cons (ed_call (ds := [((eT eQ) chances_v)]) (ea_cons (ed_var rfl) ea_nil) ⟨chances_v, rfl, by exact ⟨_, hl2, hch, hl1⟩, rfl⟩) ea_nil)))) (ea_cons (ed_L (el_lst (ds := [((((true, ((sizes_v1).map fun (x54 : Int) => (ixG (esF ((meanF legs_v chances_v))) x54)))).2.sum) * qv ((stake_v, (1 : Int)))), ((prodQ (chances_v.take ((chances_v).length)))⁻¹)].map eQ) (ea_cons (ed_is (ed_call (ds := [((eP PyData.int PyData.int) (qp (((true, ((sizes_v1).map fun (x54 : Int) => (ixG (esF ((meanF legs_v chances_v))) x54)))).2.sum))), ((eP PyData.int PyData.int) (stake_v, (1 : Int)))]) (ea_cons (ed_is (ed_call (ds := [((eS eQ) (true, ((sizes_v1).map fun (x54 : Int) => (ixG (esF ((meanF legs_v chances_v))) x54))))]) (ea_cons (ed_is (ed_L (el_lcAX (xs := sizes_v1) (ea := fun x => Itm.hard (PyData.int x)) (enc := eQ) (fb := fun (x54 : Int) => (ixG (esF ((meanF legs_v chances_v))) x54)) (ei_tupX (ed_var rfl)) (by first | omega | (unfold rngX; rw [List.length_map, List.length_range]; omega) | (simp; omega) | (rw [(sortX_perm _ _).length_eq]; unfold lrOf; rw [List.length_map]; omega)) (by simp) (fun _ _ x54 hx54 => ⟨_, rfl, (eg_name (by simp)), (ed_ixLX (f := eQ) (l := (esF ((meanF legs_v chances_v)))) (ed_var rfl) (ed_var rfl) (by exact inb (by have := szOk_ix hsz (by assumption); rw [esF_len]; omega)))⟩))) (rfl : _ = ((eS eQ) (true, ((sizes_v1).map fun (x54 : Int) => (ixG (esF ((meanF legs_v chances_v))) x54)))))) ea_nil) ⟨(true, ((sizes_v1).map fun (x54 : Int) => (ixG (esF ((meanF legs_v chances_v))) x54))), rfl, by exact sum_pre hmf (by omega) (fun k hk => by have := szOk_ix hsz hk; omega) (by omega), rfl⟩) (rfl : _ = ((eP PyData.int PyData.int) (qp (((true, ((sizes_v1).map fun (x54 : Int) => (ixG (esF ((meanF legs_v chances_v))) x54)))).2.sum))))) (ea_cons (ed_tup (ds := [(PyData.int stake_v), (PyData.int (1 : Int))]) (ea_cons (ed_var rfl) (ea_cons ed_int ea_nil))) ea_nil)) ⟨(qp (((true, ((sizes_v1).map fun (x54 : Int) => (ixG (esF ((meanF legs_v chances_v))) x54)))).2.sum)), (stake_v, (1 : Int)), rfl, by exact due_pb hml hmf hl2 hsz, by exact pb_small (by omega) (by decide) (by decide), rfl⟩) (by simp only [qv_qp] : _ = (eQ ((((true, ((sizes_v1).map fun (x54 : Int) => (ixG (esF ((meanF legs_v chances_v))) x54)))).2.sum) * qv ((stake_v, (1 : Int))))))) (ea_cons (ed_var rfl) ea_nil)))) ea_nil)) ⟨((eL eQ) [(sumE (meanF (legs_v) (chances_v)) (sizes_v1) * (((stake_v) : Int) : Rat)), ((prodQ (chances_v))⁻¹)]), ((eL eQ) [((((true, ((sizes_v1).map fun (x54 : Int) => (ixG (esF ((meanF legs_v chances_v))) x54)))).2.sum) * qv ((stake_v, (1 : Int)))), ((prodQ (chances_v.take ((chances_v).length)))⁻¹)]), rfl, by exact fair_eq hml hsz, by exact fair_gd hml hmf hl2 hsz hst hch, rfl⟩))) (fun hc6 => ?_) (fun hc6 => ?_))
            · exact absurd hc6 (by simp)
            · refine s_next ?_
              exact s_retW (i := 0) (ew_det (f := PyData.bool) (x := (true)) (ed_call (ds := [((eO PyData.int) (leastF (pricesS (legs_v)) (sizes_v1) (wholeC (legs_v).length (sizes_v1)) (legs_v).length)), ((eO PyData.int) (leastF (pricesS (legs_v)) (sizes_v1) (wholeC (legs_v).length (sizes_v1)) (legs_v).length))]) (ea_cons (ed_call (ds := [((eT (eP eQ PyData.str)) legs_v), ((eT PyData.int) sizes_v1), (PyData.int stake_v)]) (ea_cons (ed_var rfl) (ea_cons (ed_var rfl) (ea_cons (ed_var rfl) ea_nil))) ⟨legs_v, sizes_v1, stake_v, rfl, by assumption, by assumption, by assumption, rfl⟩) (ea_cons (ed_call (ds := [((eT (eP eQ PyData.str)) legs_v), ((eT PyData.int) sizes_v1), (PyData.int (wholeC (legs_v).length sizes_v1))]) (ea_cons (ed_var rfl) (ea_cons (ed_var rfl) (ea_cons (ed_var rfl) ea_nil))) ⟨legs_v, sizes_v1, (wholeC (legs_v).length sizes_v1), rfl, by assumption, by assumption, by rfl, rfl⟩) ea_nil)) ⟨((eO PyData.int) (leastF (pricesS (legs_v)) (sizes_v1) (wholeC (legs_v).length (sizes_v1)) (legs_v).length)), ((eO PyData.int) (leastF (pricesS (legs_v)) (sizes_v1) (wholeC (legs_v).length (sizes_v1)) (legs_v).length)), rfl, by rfl, by exact least_gd hl2, rfl⟩)) rfl hR (fun x hx => by subst hx; exact hΦ _ rfl)

/-! ### _law_pools_hold -/
abbrev s_law_pools_hold : Stmt := topS 68
abbrev N_law_pools_hold : List Str := ["state", "many", "top", "bets", "kept", "step", "k", "winners_in", "told", "left", "part", "alone", "runner", "stake", "more", "money", "dividends", "cover"]
theorem sc_law_pools_hold : FnScope N_law_pools_hold ["state"] (defScope s_law_pools_hold) := ⟨rfl, rfl, rfl, by decide +kernel, rfl, by decide +kernel, by decide +kernel⟩
def R_law_pools_hold : List PyData → (PyData → Prop) → Prop := fun ds Φ => ds = [] ∧ ∀ z : Bool, z = true → Φ (PyData.bool z)
set_option maxHeartbeats 4000000 in
theorem ok_law_pools_hold {P : Program} {w : World} {K : PySem.W.Frag} {mg : Str → Option Value} {base : Heap} (B : Gb K mg) (F : Fd K mg "_law_pools_hold" s_law_pools_hold) (C_law_draw : Cl P w K mg base 1 "_law_draw" ["state", "many"] (SpW K R_draw)) (C_law_pick : Cl P w K mg base 2 "_law_pick" ["state", "some"] (SpW K R_pick)) (C_law_q : Cl P w K mg base 1 "_law_q" ["up", "down"] (SpP K R_law_q)) (C_accept_cover : Cl P w K mg base 3 "accept_cover" ["dividends", "money", "rows"] (SpP K R_accept_cover)) (C_cover_all : Cl P w K mg base 3 "cover_all" ["dividends", "money"] (SpP K R_cover_all)) (C_dividends_by_runner : Cl P w K mg base 6 "dividends_by_runner" ["bets", "kept", "step"] (SpP K R_dividends_by_runner)) (C_impact : Cl P w K mg base 5 "impact" ["bets", "kept", "step", "runner", "stake"] (SpP K R_impact)) (C_left_over : Cl P w K mg base 6 "left_over" ["bets", "kept", "step", "winners"] (SpP K R_left_over)) (C_paid_out : Cl P w K mg base 3 "paid_out" ["bets", "winners", "dividends"] (SpP K R_paid_out)) (C_win_dividends : Cl P w K mg base 5 "win_dividends" ["bets", "kept", "step", "winners"] (SpP K R_win_dividends)) : Cl P w K mg base 7 "_law_pools_hold" ["state"] (SpW K R_law_pools_hold) := by
  have BG := B
  obtain ⟨f, fd, F, hm⟩ := F.ex
  refine ⟨f, fd, fnG_of (k := 6) F sc_law_pools_hold (spW_len fun ds d h => ?_) (fun cdv A outer s H hr hgd => ⟨_, (pss_cons (ps_asg (pe_tupF (pa_cons (pe_op op_add pe_int (pe_cl C_law_draw (hr.mono (by decide)) hgd (by rfl) (pa_cons (pv 0) (pa_cons pe_int pa_nil)))) (pa_cons (pe_cl C_law_pick (hr.mono (by decide)) hgd (by rfl) (pa_cons (pv 0) (pa_cons (pe_lst (pa_cons pe_int (pa_cons pe_int (pa_cons pe_int pa_nil)))) pa_nil))) pa_nil))) (pg_tup rfl (pgs_cons (pg_name (i := 1) sc_law_pools_hold.nd rfl (Or.inl rfl)) (pgs_cons (pg_name (i := 2) sc_law_pools_hold.nd rfl (Or.inr rfl)) pgs_nil))) rfl) (pss_cons (ps_asg (pe_tupF (pa_cons (pe_callTy (r := rTupOf K) call_tupleF (by rfl) B.tuple_ PyProof.Rows.boot_tuple (pa_cons (pe_lc (own := [("k", 6)]) (g := _) (tt := tYes) rfl sc_law_pools_hold.nd (pi_range1 (by rfl) B.range_ (pa_cons (pv 1) pa_nil)) (blkOk_by (N := N_law_pools_hold) (sc := defScope s_law_pools_hold) (by decide +kernel)) (fun _ _ _ _ _ => (pg_name (i := 6) sc_law_pools_hold.nd rfl (by first | exact Or.inl rfl | exact Or.inr rfl))) (fun _ _ _ _ _ => pts_nil) (fun _ _ _ _ _ => (pe_cl C_law_draw (hr.mono (by decide)) hgd (by rfl) (pa_cons (pv 0) (pa_cons (pe_op op_add (pv 2) pe_int) pa_nil))))) pa_nil)) (pa_cons (pe_cl C_law_q (hr.mono (by decide)) hgd (by rfl) (pa_cons (pe_cl C_law_draw (hr.mono (by decide)) hgd (by rfl) (pa_cons (pv 0) (pa_cons pe_int pa_nil))) (pa_cons pe_int pa_nil))) (pa_cons (pe_cl C_law_pick (hr.mono (by decide)) hgd (by rfl) (pa_cons (pv 0) (pa_cons (pe_lst (pa_cons pe_int (pa_cons pe_int (pa_cons pe_int pa_nil)))) pa_nil))) pa_nil)))) (pg_tup rfl (pgs_cons (pg_name (i := 3) sc_law_pools_hold.nd rfl (Or.inr rfl)) (pgs_cons (pg_name (i := 4) sc_law_pools_hold.nd rfl (Or.inl rfl)) (pgs_cons (pg_name (i := 5) sc_law_pools_hold.nd rfl (Or.inr rfl)) pgs_nil)))) rfl) (pss_cons (ps_set (i := 7) sc_law_pools_hold.nd rfl (Or.inl rfl) (pe_callTy (r := rTupOf K) call_tupleF (by rfl) B.tuple_ PyProof.Rows.boot_tuple (pa_cons (pe_lc (own := [("k", 6)]) (g := _) (tt := _) rfl sc_law_pools_hold.nd (pi_range1 (by rfl) B.range_ (pa_cons (pv 1) pa_nil)) (blkOk_by (N := N_law_pools_hold) (sc := defScope s_law_pools_hold) (by decide +kernel)) (fun _ _ _ _ _ => (pg_name (i := 6) sc_law_pools_hold.nd rfl (by first | exact Or.inl rfl | exact Or.inr rfl))) (fun _ _ _ _ _ => (pts_one (pt_cmpR (r := rEqD K) (op_eqD hr.units) (pe_cl C_law_draw (hr.mono (by decide)) hgd (by rfl) (pa_cons (pv 0) (pa_cons pe_int pa_nil))) pe_int (nomark _)))) (fun _ _ _ _ _ => (pv 6))) pa_nil))) (pss_cons (ps_set (i := 7) sc_law_pools_hold.nd rfl (Or.inl rfl) (pe_ifExp (pt_truth (pv 7) (fun _ => rfl)) (pv 7) (pe_tupF (pa_cons (pe_cl C_law_draw (hr.mono (by decide)) hgd (by rfl) (pa_cons (pv 0) (pa_cons (pv 1) pa_nil))) pa_nil)))) (pss_cons (ps_par (i := 8) (j := 9) rfl sc_law_pools_hold.nd rfl rfl (by decide) rfl rfl (pa_cons (pe_cl C_win_dividends (hr.mono (by decide)) hgd (by rfl) (pa_cons (pv 3) (pa_cons (pv 4) (pa_cons (pv 5) (pa_cons (pv 7) pa_nil))))) (pa_cons (pe_cl C_left_over (hr.mono (by decide)) hgd (by rfl) (pa_cons (pv 3) (pa_cons (pv 4) (pa_cons (pv 5) (pa_cons (pv 7) pa_nil))))) pa_nil)) rfl rfl) (pss_cons (ps_if (pt_cmpR op_isN (pv 8) pe_non (nomark _)) (pss_one (ps_if (PW.pt (pw_or (pt_cmpR op_gt (pe_callB (r := rSumT K) (cr_sumT rfl) (by rfl) B.sum_ (by decide +kernel) (pa_cons (pe_lc (own := [("k", 6)]) (g := _) (tt := tYes) rfl sc_law_pools_hold.nd (pi_tup (pv 7)) (blkOk_by (N := N_law_pools_hold) (sc := defScope s_law_pools_hold) (by decide +kernel)) (fun _ _ _ _ _ => (pg_name (i := 6) sc_law_pools_hold.nd rfl (by first | exact Or.inl rfl | exact Or.inr rfl))) (fun _ _ _ _ _ => pts_nil) (fun _ _ _ _ _ => (pe_ix (r := rIxT K) ix_tup (pv 3) (pv 6) (fun _ _ => rfl)))) pa_nil)) pe_int (nomark _)) (pw_or1 (pt_cmpR (r := rNeD K) (op_neD hr.units) (pv 9) (pe_callB (r := rSumT K) (cr_sumT rfl) (by rfl) B.sum_ (by decide +kernel) (pa_cons (pv 3) pa_nil)) (nomark _))))) pss_never pss_nil)) (pss_one (ps_if (PW.pt (pw_or (pt_cmpR (r := rNeD K) (op_neD hr.units) (pv 9) (pe_op op_sub (pe_callB (r := rSumT K) (cr_sumT rfl) (by rfl) B.sum_ (by decide +kernel) (pa_cons (pv 3) pa_nil)) (pe_cl C_paid_out (hr.mono (by decide)) hgd (by rfl) (pa_cons (pv 3) (pa_cons (pv 7) (pa_cons (pv 8) pa_nil))))) (nomark _)) (pw_or1 (pt_truth (pe_lc (own := [("part", 10)]) (g := _) (tt := _) rfl sc_law_pools_hold.nd (pi_tup (pv 8)) (blkOk_by (N := N_law_pools_hold) (sc := defScope s_law_pools_hold) (by decide +kernel)) (fun _ _ _ _ _ => (pg_name (i := 10) sc_law_pools_hold.nd rfl (by first | exact Or.inl rfl | exact Or.inr rfl))) (fun _ _ _ _ _ => (pts_one (PW.pt (pw_and (pt_cmpR op_notN (pv 10) pe_non (nomark _)) (pw_and1 (pt_cmpR op_gt (pe_op op_mod (pe_callTy call_int1 (by rfl) B.int_ PyProof.Rows.boot_int (pa_cons (pv 10) pa_nil)) (pe_callTy call_int1 (by rfl) B.int_ PyProof.Rows.boot_int (pa_cons (pv 5) pa_nil))) pe_int (nomark _))))))) (fun _ _ _ _ _ => (pv 10))) (fun _ => rfl))))) pss_never (pss_one (ps_if (pt_cmpR op_gt (pe_cl C_paid_out (hr.mono (by decide)) hgd (by rfl) (pa_cons (pv 3) (pa_cons (pv 7) (pa_cons (pv 8) pa_nil)))) (pe_op op_fdivG (pe_op op_mulG (pe_callB (r := rSumT K) (cr_sumT rfl) (by rfl) B.sum_ (by decide +kernel) (pa_cons (pv 3) pa_nil)) (pe_op op_sub (pe_ix (r := rIxT K) ix_tup (pv 4) pe_int (fun _ _ => rfl)) (pe_ix (r := rIxT K) ix_tup (pv 4) pe_int (fun _ _ => rfl)))) (pe_ix (r := rIxT K) ix_tup (pv 4) pe_int (fun _ _ => rfl))) (nomark _)) pss_never pss_nil))))) (pss_cons (ps_set (i := 11) sc_law_pools_hold.nd rfl (Or.inr rfl) (pe_cl C_dividends_by_runner (hr.mono (by decide)) hgd (by rfl) (pa_cons (pv 3) (pa_cons (pv 4) (pa_cons (pv 5) pa_nil))))) (pss_cons (ps_if (PW.pt (pw_or (pt_cmpR (r := rNeD K) (op_neD hr.units) (pe_revT (pv 11)) (pe_cl C_dividends_by_runner (hr.mono (by decide)) hgd (by rfl) (pa_cons (pe_revT (pv 3)) (pa_cons (pv 4) (pa_cons (pv 5) pa_nil)))) (nomark _)) (pw_or1 (pt_truth (pe_lc (own := [("k", 6)]) (g := _) (tt := _) rfl sc_law_pools_hold.nd (pi_range1 (by rfl) B.range_ (pa_cons (pv 1) pa_nil)) (blkOk_by (N := N_law_pools_hold) (sc := defScope s_law_pools_hold) (by decide +kernel)) (fun _ _ _ _ _ => (pg_name (i := 6) sc_law_pools_hold.nd rfl (by first | exact Or.inl rfl | exact Or.inr rfl))) (fun _ _ _ _ _ => (pts_one (pt_cmpR (r := rNeD K) (op_neD hr.units) (pe_cmpR op_isN (pe_ix (r := rIxT K) ix_tup (pv 11) (pv 6) (fun _ _ => rfl)) pe_non (nomark _)) (pe_cmpR (r := rEqD K) (op_eqD hr.units) (pe_ix (r := rIxT K) ix_tup (pv 3) (pv 6) (fun _ _ => rfl)) pe_int (nomark _)) (nomark _)))) (fun _ _ _ _ _ => (pv 6))) (fun _ => rfl))))) pss_never pss_nil) (pss_cons (ps_for PassesOwn.never rfl (pi_range1 (by rfl) B.range_ (pa_cons (pv 1) pa_nil)) (pg_name (i := 6) sc_law_pools_hold.nd rfl (Or.inl rfl)) (pss_one (ps_if (PW.pt (pw_and (pt_cmpR op_gt (pe_ix (r := rIxT K) ix_tup (pv 3) (pv 6) (fun _ _ => rfl)) pe_int (nomark _)) (pw_and1 (pt_cmpR (r := rNeD K) (op_neD hr.units) (pe_cl C_win_dividends (hr.mono (by decide)) hgd (by rfl) (pa_cons (pv 3) (pa_cons (pv 4) (pa_cons (pv 5) (pa_cons (pe_tupF (pa_cons (pv 6) pa_nil)) pa_nil))))) (pe_tupF (pa_cons (pe_ix (r := rIxT K) ix_tup (pv 11) (pv 6) (fun _ _ => rfl)) pa_nil)) (nomark _))))) pss_never pss_nil))) (pss_cons (ps_par (i := 12) (j := 13) rfl sc_law_pools_hold.nd rfl rfl (by decide) rfl rfl (pa_cons (pe_cl C_law_draw (hr.mono (by decide)) hgd (by rfl) (pa_cons (pv 0) (pa_cons (pv 1) pa_nil))) (pa_cons (pe_op op_add pe_int (pe_cl C_law_draw (hr.mono (by decide)) hgd (by rfl) (pa_cons (pv 0) (pa_cons pe_int pa_nil)))) pa_nil)) rfl rfl) (pss_cons (ps_set (i := 14) sc_law_pools_hold.nd rfl (Or.inl rfl) (pe_op (r := rCatF K) op_catF (pe_op (r := rCatF K) op_catF (pe_slice (r := rSlF K) sl_tupF (pv 3) po_none (po_some (pv 12))) (pe_tupF (pa_cons (pe_op op_add (pe_ix (r := rIxT K) ix_tup (pv 3) (pv 12) (fun _ _ => rfl)) (pv 13)) pa_nil))) (pe_slice (r := rSlF K) sl_tupF (pv 3) (po_some (pe_op op_add (pv 12) pe_int)) po_none))) (pss_cons (ps_if (PW.pt (pw_and (pt_cmpR op_le (pe_op op_add (pe_ix (r := rIxT K) ix_tup (pv 3) (pv 12) (fun _ _ => rfl)) (pv 13)) pe_int (nomark _)) (pw_and1 (pt_cmpR (r := rNeD K) (op_neD hr.units) (pe_cl C_impact (hr.mono (by decide)) hgd (by rfl) (pa_cons (pv 3) (pa_cons (pv 4) (pa_cons (pv 5) (pa_cons (pv 12) (pa_cons (pv 13) pa_nil)))))) (pe_ix (r := rIxT K) ix_tup (pe_cl C_dividends_by_runner (hr.mono (by decide)) hgd (by rfl) (pa_cons (pv 14) (pa_cons (pv 4) (pa_cons (pv 5) pa_nil)))) (pv 12) (fun _ _ => rfl)) (nomark _))))) pss_never pss_nil) (pss_cons (ps_asg (pe_tupF (pa_cons (pe_op op_add pe_int (pe_cl C_law_draw (hr.mono (by decide)) hgd (by rfl) (pa_cons (pv 0) (pa_cons pe_int pa_nil)))) (pa_cons (pe_callTy (r := rTupOf K) call_tupleF (by rfl) B.tuple_ PyProof.Rows.boot_tuple (pa_cons (pe_lc (own := [("part", 10)]) (g := _) (tt := tYes) rfl sc_law_pools_hold.nd (pi_tup (pv 11)) (blkOk_by (N := N_law_pools_hold) (sc := defScope s_law_pools_hold) (by decide +kernel)) (fun _ _ _ _ _ => (pg_name (i := 10) sc_law_pools_hold.nd rfl (by first | exact Or.inl rfl | exact Or.inr rfl))) (fun _ _ _ _ _ => pts_nil) (fun _ _ _ _ _ => (pe_ifExp (PW.pt (pw_or (pt_cmpR op_isN (pv 10) pe_non (nomark _)) (pw_or1 (pt_cmpR op_gt (pv 10) pe_int (nomark _))))) pe_non (pv 10)))) pa_nil)) pa_nil))) (pg_tup rfl (pgs_cons (pg_name (i := 15) sc_law_pools_hold.nd rfl (Or.inr rfl)) (pgs_cons (pg_name (i := 16) sc_law_pools_hold.nd rfl (Or.inr rfl)) pgs_nil))) rfl) (pss_cons (ps_set (i := 17) sc_law_pools_hold.nd rfl (Or.inr rfl) (pe_cl C_cover_all (hr.mono (by decide)) hgd (by rfl) (pa_cons (pv 16) (pa_cons (pv 15) pa_nil)))) (pss_cons (ps_if (pt_cmpR op_isN (pv 17) pe_non (nomark _)) (pss_one (ps_ret pe_bl)) pss_nil) (pss_cons (ps_if (PW.pt (pw_or (pt_cmpR op_ge (pe_callB (r := rSumT K) (cr_sumT rfl) (by rfl) B.sum_ (by decide +kernel) (pa_cons (pv 17) pa_nil)) (pv 15) (nomark _)) (pw_or1 (pt_truth (pe_lc (own := [("k", 6)]) (g := _) (tt := _) rfl sc_law_pools_hold.nd (pi_range1 (by rfl) B.range_ (pa_cons (pv 1) pa_nil)) (blkOk_by (N := N_law_pools_hold) (sc := defScope s_law_pools_hold) (by decide +kernel)) (fun _ _ _ _ _ => (pg_name (i := 6) sc_law_pools_hold.nd rfl (by first | exact Or.inl rfl | exact Or.inr rfl))) (fun _ _ _ _ _ => (pts_one (PW.pt (pw_and (pt_cmpR op_notN (pe_ix (r := rIxT K) ix_tup (pv 16) (pv 6) (fun _ _ => rfl)) pe_non (nomark _)) (pw_and1 (pt_cmpR op_lt (pe_op op_fdivG (pe_op op_mulG (pe_ix (r := rIxT K) ix_tup (pv 17) (pv 6) (fun _ _ => rfl)) (pe_ix (r := rIxT K) ix_tup (pv 16) (pv 6) (fun _ _ => rfl))) pe_int) (pv 15) (nomark _))))))) (fun _ _ _ _ _ => (pv 6))) (fun _ => rfl))))) pss_never pss_nil) (pss_cons (ps_if (pt_truth (pe_lc (own := [("k", 6)]) (g := _) (tt := _) rfl sc_law_pools_hold.nd (pi_range1 (by rfl) B.range_ (pa_cons (pv 1) pa_nil)) (blkOk_by (N := N_law_pools_hold) (sc := defScope s_law_pools_hold) (by decide +kernel)) (fun _ _ _ _ _ => (pg_name (i := 6) sc_law_pools_hold.nd rfl (by first | exact Or.inl rfl | exact Or.inr rfl))) (fun _ _ _ _ _ => (pts_one (PW.pt (pw_and (pt_cmpR op_gt (pe_ix (r := rIxT K) ix_tup (pv 17) (pv 6) (fun _ _ => rfl)) pe_int (nomark _)) (pw_and1 (pt_cmpR op_ge (pe_op op_fdivG (pe_op op_mulG (pe_op op_sub (pe_ix (r := rIxT K) ix_tup (pv 17) (pv 6) (fun _ _ => rfl)) pe_int) (pe_ix (r := rIxT K) ix_tup (pv 16) (pv 6) (fun _ _ => rfl))) pe_int) (pv 15) (nomark _))))))) (fun _ _ _ _ _ => (pv 6))) (fun _ => rfl)) pss_never pss_nil) (pss_one (ps_ret (pe_cmpR op_isN (pe_cl C_accept_cover (hr.mono (by decide)) hgd (by rfl) (pa_cons (pv 16) (pa_cons (pv 15) (pa_cons (pv 17) pa_nil)))) pe_non (nomark _))))))))))))))))))))), fun vs Q => fn_draws (N := N_law_pools_hold) (fun ds d h => ?_) (fun B S a ds Φ h D hR => ?_) vs H Q E0⟩), hm, F.kp, F.binds fun _ _ _ _ _ _ us hl => match us, hl with | [_], _ => rfl⟩
  · obtain ⟨rfl, hΦ⟩ := h; rfl
  · obtain ⟨rfl, hΦ⟩ := h; simp
  · obtain ⟨rfl, hΦ⟩ := h
    show Ss _ _ [.mu false a (.any StOk), .no, .no, .no, .no, .no, .no, .no, .no, .no, .no, .no, .no, .no, .no, .no, .no, .no] _ _
    refine s_seq (s_asgGW (ws := [1, 2]) (ρ2 := fun q9 => [.mu false a (.any StOk), .da (PyData.int (q9).1), .da (PyData.int (q9).2), .no, .no, .no, .no, .no, .no, .no, .no, .no, .no, .no, .no, .no, .no, .no]) (ew_as (g := (eP PyData.int PyData.int)) (R := (fun q8 => (fun z7 => ∃ x1 y2, (fun y => y = (1 : Int)) x1 ∧ (fun x => 0 ≤ x ∧ x < (20 : Int)) y2 ∧ z7 = (fun _ y2 => ((1 : Int) + y2)) x1 y2) q8.1 ∧ (fun x => x ∈ [(3 : Int), (100 : Int), (1000000 : Int)]) q8.2)) (ew_tup (ds := fun p : Int × Int × Unit => [(PyData.int p.1), (PyData.int p.2.1)]) (n := 2) (ewa_cons (ew_op (e := PyData.int) (F := (fun _ y2 => ((1 : Int) + y2))) (ew_det (f := PyData.int) (x := (1 : Int)) ed_int) (ew_drawD (i := 0) ed_int rfl rfl (by omega)) (fun x1 y2 hx3 hy4 _ _ _ ha5 hb6 => by subst hx3; exact (ed_I0 ha5 hb6))) (ewa_cons (ew_pickLD (i := 0) (ed_L (el_lst (ds := [(3 : Int), (100 : Int), (1000000 : Int)].map PyData.int) (ea_cons ed_int (ea_cons ed_int (ea_cons ed_int ea_nil))))) rfl rfl (by simp)) ewa_nil)) (fun _ => rfl)) (fun p hp => ⟨(p.1, p.2.1), ⟨hp.1, hp.2.1⟩, rfl⟩)) (fun q9 hq10 => (eg_tup (egs_cons (eg_name (by simp)) (egs_cons (eg_name (by simp)) egs_nil)))) (fun q9 hq10 => ?_))
    obtain ⟨many_v, top_v⟩ := q9
    obtain ⟨h_many_v, h_top_v⟩ := hq10
    refine s_le (ρ1 := [.mu false a (.any StOk), .da (PyData.int many_v), .da (PyData.int top_v), .no, .no, .no, .no, .no, .no, .no, .no, .no, .no, .no, .no, .no, .no, .no]) (le_rfl rfl) ?_
    try dsimp only at h_many_v
    try dsimp only at h_top_v
    have htp : top_v = 3 ∨ top_v = 100 ∨ top_v = 1000000 := by simpa using h_top_v
    have hmn : 1 ≤ many_v ∧ many_v ≤ 20 := by omega
    refine s_seq (s_asgGW (ws := [3, 4, 5]) (ρ1 := [.mu false a (.any StOk), .da (PyData.int many_v), .da (PyData.int top_v), .no, .no, .no, .no, .no, .no, .no, .no, .no, .no, .no, .no, .no, .no, .no]) (ρ2 := fun q20 => [.mu false a (.any StOk), .da (PyData.int many_v), .da (PyData.int top_v), .da ((eT PyData.int) (q20).1), .da (eQ (q20).2.1), .da (PyData.int (q20).2.2), .no, .no, .no, .no, .no, .no, .no, .no, .no, .no, .no, .no]) (ew_as (g := (eP3 (eT PyData.int) eQ PyData.int)) (R := (fun q19 => (fun l => Fa (fun (x11 : Nat) z => (fun x => 0 ≤ x ∧ x < (top_v + (1 : Int))) z) (List.range (many_v).toNat) l) q19.1 ∧ (fun z => ∃ (x17 : Int × Int × Unit), ((fun x => 0 ≤ x ∧ x < (101 : Int)) x17.1 ∧ (fun y => y = (100 : Int)) x17.2.1 ∧ True) ∧ z = (Rat.divInt (x17.1) ((100 : Int)))) q19.2.1 ∧ (fun x => x ∈ [(1 : Int), (5 : Int), (10 : Int)]) q19.2.2)) (ew_tup (ds := fun p : (List Int) × Rat × Int × Unit => [((eT PyData.int) p.1), (eQ p.2.1), (PyData.int p.2.2.1)]) (n := 3) (ewa_cons (f := (fun l : List Int => PyData.tuple (l.map PyData.int))) (P := (fun l => Fa (fun (x11 : Nat) z => (fun x => 0 ≤ x ∧ x < (top_v + (1 : Int))) z) (List.range (many_v).toNat) l)) (by exact (ew_imp (R := (fun l => Fa (fun (x11 : Nat) z => (fun x => 0 ≤ x ∧ x < (top_v + (1 : Int))) z) (List.range (many_v).toNat) l)) (ew_cb1 (e := (fun l : List Int => PyData.tuple (l.map PyData.int))) (F := (fun x13 => x13)) (ew_L (el_lcW1 (xs := (List.range (many_v).toNat)) (ea := fun (i : Nat) => Itm.hard (PyData.int (i : Int))) (eb := PyData.int) (R := fun (x11 : Nat) z => (fun x => 0 ≤ x ∧ x < (top_v + (1 : Int))) z) (ei_rng (ed_var rfl) (by omega)) (by first | (simp; done) | omega | (simp; omega) | (rw [(left_a hwo (by assumption) hpo hko hso.1).1]; omega)) (by simp) (fun _ _ x11 hx12 => ⟨_, rfl, (eg_name (by simp)), (ew_drawD (i := 0) (ed_I0 (ed_var rfl) ed_int) rfl rfl (by omega))⟩))) (fun x13 hx14 _ _ ha15 => (ed_tupleL ha15))) (fun _ ⟨_, h, e⟩ => by subst e; exact h))) (ewa_cons (f := eQ) (P := (fun z => ∃ (x17 : Int × Int × Unit), ((fun x => 0 ≤ x ∧ x < (101 : Int)) x17.1 ∧ (fun y => y = (100 : Int)) x17.2.1 ∧ True) ∧ z = (Rat.divInt (x17.1) ((100 : Int))))) (by exact (ew_call (e := eQ) (F := (fun (x17 : Int × Int × Unit) => (Rat.divInt (x17.1) ((100 : Int))))) (ds := fun (x17 : Int × Int × Unit) => [(PyData.int x17.1), (PyData.int x17.2.1)]) (ewa_cons (ew_drawD (i := 0) ed_int rfl rfl (by omega)) (ewa_cons (ew_det (f := PyData.int) (x := (100 : Int)) ed_int) ewa_nil)) (fun x17 hx18 => by have e1 := hx18.2.1; (try dsimp only at e1); exact ⟨x17.1, x17.2.1, rfl, by omega, by exact small_lt (by omega), by simp only [e1]⟩))) (ewa_cons (f := PyData.int) (P := (fun x => x ∈ [(1 : Int), (5 : Int), (10 : Int)])) (by exact (ew_pickLD (i := 0) (ed_L (el_lst (ds := [(1 : Int), (5 : Int), (10 : Int)].map PyData.int) (ea_cons ed_int (ea_cons ed_int (ea_cons ed_int ea_nil))))) rfl rfl (by simp))) ewa_nil))) (fun _ => rfl)) (fun p hp => ⟨(p.1, p.2.1, p.2.2.1), ⟨hp.1, hp.2.1, hp.2.2.1⟩, rfl⟩)) (fun q20 hq21 => (eg_tup (egs_cons (eg_name (by simp)) (egs_cons (eg_name (by simp)) (egs_cons (eg_name (by simp)) egs_nil))))) (fun q20 hq21 => ?_))
    obtain ⟨bets_v, kept_v, step_v⟩ := q20
    obtain ⟨h_bets_v, h_kept_v, h_step_v⟩ := hq21
    refine s_le (ρ1 := [.mu false a (.any StOk), .da (PyData.int many_v), .da (PyData.int top_v), .da ((eT PyData.int) bets_v), .da (eQ kept_v), .da (PyData.int step_v), .no, .no, .no, .no, .no, .no, .no, .no, .no, .no, .no, .no]) (le_rfl rfl) ?_
    try dsimp only at h_bets_v
    try dsimp only at h_kept_v
    try dsimp only at h_step_v
    have hpo : PoolOk bets_v := pool_made hmn htp h_bets_v
    have hko : KeptOk kept_v := kept_draw h_kept_v
    have hs3 : step_v = 1 ∨ step_v = 5 ∨ step_v = 10 := by simpa using h_step_v
    have hso : 1 ≤ step_v ∧ step_v ≤ 1000 := by omega
    have hbl : (bets_v.length : Int) = many_v := by have := h_bets_v.len; rw [List.length_range] at this; omega
    have hps := pool_sum hpo
    have hkr := kept_rng hko
    have hal := alone_len bets_v kept_v step_v
    refine s_seq (s_asgW (ew_imp (R := (fun l => l.Sublist (((List.range (many_v).toNat)).map fun (x22 : Nat) => (x22 : Int)))) (ew_cb1 (e := (fun l : List Int => PyData.tuple (l.map PyData.int))) (F := (fun x31 => x31)) (ew_L (el_lcF (xs := (List.range (many_v).toNat)) (ea := fun (i : Nat) => Itm.hard (PyData.int (i : Int))) (eb := PyData.int) (fb := fun (x22 : Nat) => (x22 : Int)) (bp := fun (x22 : Nat) => (fun z30 => ∃ x24 y25, (fun x => 0 ≤ x ∧ x < (4 : Int)) x24 ∧ (fun y => y = (0 : Int)) y25 ∧ z30 = (fun x24 _ => (decide (x24 = (0 : Int)))) x24 y25)) (ei_rng (ed_var rfl) (by omega)) (by first | (simp; done) | omega | (simp; omega) | (rw [(left_a hwo (by assumption) hpo hko hso.1).1]; omega)) (by simp) (fun _ _ x22 hx23 => ⟨_, rfl, (eg_name (by simp)), (ewt_test (ew_op (e := PyData.bool) (F := (fun x24 _ => (decide (x24 = (0 : Int))))) (ew_drawD (i := 0) ed_int rfl rfl (by omega)) (ew_det (f := PyData.int) (x := (0 : Int)) ed_int) (fun x24 y25 hx26 hy27 _ _ _ ha28 hb29 => by subst hy27; exact (ed_eqI ha28 hb29)))), (ed_var rfl)⟩))) (fun x31 hx32 _ _ ha33 => (ed_tupleL ha33))) (fun _ ⟨_, h, e⟩ => by subst e; exact h)) (fun winners_in_v h_winners_in_v => s_le (ρ1 := [.mu false a (.any StOk), .da (PyData.int many_v), .da (PyData.int top_v), .da ((eT PyData.int) bets_v), .da (eQ kept_v), .da (PyData.int step_v), .no, .da ((eT PyData.int) winners_in_v), .no, .no, .no, .no, .no, .no, .no, .no, .no, .no]) (le_rfl rfl) ?_))
    try dsimp only at h_winners_in_v
    refine s_seq (s_asgW (ew_ite (cb := fun _ => True) (ewt_det (et_truT (ed_var rfl))) (fun hb35 => (ew_det (f := (fun l : List Int => PyData.tuple (l.map PyData.int))) (x := winners_in_v) (ed_var rfl))) (fun hb35 => (ew_as (g := fun l : List Int => PyData.tuple (l.map PyData.int)) (R := (fun q : List Int => ∃ z36, (fun x => 0 ≤ x ∧ x < many_v) z36 ∧ q = [z36])) (ew_tup (ds := fun p : Int × Unit => [(PyData.int p.1)]) (n := 1) (ewa_cons (ew_drawD (i := 0) (ed_var rfl) rfl rfl (by omega)) ewa_nil) (fun _ => rfl)) (fun p hp => ⟨[p.1], ⟨p.1, hp.1, rfl⟩, rfl⟩)))) (fun winners_in_v1 h_winners_in_v1 => s_le (ρ1 := [.mu false a (.any StOk), .da (PyData.int many_v), .da (PyData.int top_v), .da ((eT PyData.int) bets_v), .da (eQ kept_v), .da (PyData.int step_v), .no, .da ((eT PyData.int) winners_in_v1), .no, .no, .no, .no, .no, .no, .no, .no, .no, .no]) (le_rfl rfl) ?_))
    try dsimp only at h_winners_in_v1
    have hwo : WinOk bets_v.length winners_in_v1 := wins_made hbl hmn h_winners_in_v h_winners_in_v1
    have hwl := win_len hwo.2.1 hwo.2.2
    refine s_seq (s_par (ea_cons (ed_call (ds := [((eT PyData.int) bets_v), (eQ kept_v), (PyData.int step_v), ((eT PyData.int) winners_in_v1)]) (ea_cons (ed_var rfl) (ea_cons (ed_var rfl) (ea_cons (ed_var rfl) (ea_cons (ed_var rfl) ea_nil)))) ⟨bets_v, kept_v, step_v, winners_in_v1, rfl, by assumption, by assumption, by assumption, by assumption, rfl⟩) (ea_cons (ed_call (ds := [((eT PyData.int) bets_v), (eQ kept_v), (PyData.int step_v), ((eT PyData.int) winners_in_v1)]) (ea_cons (ed_var rfl) (ea_cons (ed_var rfl) (ea_cons (ed_var rfl) (ea_cons (ed_var rfl) ea_nil)))) ⟨bets_v, kept_v, step_v, winners_in_v1, rfl, by assumption, by assumption, by assumption, by assumption, rfl⟩) ea_nil)) (s_le (ρ1 := [.mu false a (.any StOk), .da (PyData.int many_v), .da (PyData.int top_v), .da ((eT PyData.int) bets_v), .da (eQ kept_v), .da (PyData.int step_v), .no, .da ((eT PyData.int) winners_in_v1), .da ((eO (eT (eO PyData.int))) (winF (bets_v) (kept_v) (step_v) (winners_in_v1))), .da (PyData.int (leftF (bets_v) (kept_v) (step_v) (winners_in_v1))), .no, .no, .no, .no, .no, .no, .no, .no]) (le_rfl rfl) ?_))
    refine s_seq (s_ifJ (b := ((winF (bets_v) (kept_v) (step_v) (winners_in_v1))).isNone) [.mu false a (.any StOk), .da (PyData.int many_v), .da (PyData.int top_v), .da ((eT PyData.int) bets_v), .da (eQ kept_v), .da (PyData.int step_v), .no, .da ((eT PyData.int) winners_in_v1), .da ((eO (eT (eO PyData.int))) (winF (bets_v) (kept_v) (step_v) (winners_in_v1))), .da (PyData.int (leftF (bets_v) (kept_v) (step_v) (winners_in_v1))), .no, .no, .no, .no, .no, .no, .no, .no] (et_test (ed_is (ed_isN (ed_var rfl)) (by rw [isN_eO (fun _ => rfl)] : _ = PyData.bool ((winF (bets_v) (kept_v) (step_v) (winners_in_v1))).isNone))) (fun hJ0 hc0 => ?_) (fun hJ0 hc0 => ?_) ?_)
    · refine (s_if (b := ((decide ((0 : Int) < (((winners_in_v1).map fun (x38 : Int) => (ixG bets_v x38))).sum)) || (!decide ((leftF (bets_v) (kept_v) (step_v) (winners_in_v1)) = (bets_v).sum)))) (et_or (et_test (ed_B0 (ed_sumL (ed_L (el_lcAX (xs := winners_in_v1) (ea := fun x => Itm.hard (PyData.int x)) (enc := PyData.int) (fb := fun (x38 : Int) => (ixG bets_v x38)) (ei_tupX (ed_var rfl)) (by first | (simp; done) | omega | (simp; omega) | (rw [(left_a hwo (by assumption) hpo hko hso.1).1]; omega)) (by simp) (fun _ _ x38 hx38 => ⟨_, rfl, (eg_name (by simp)), (ed_ixTX (f := PyData.int) (l := bets_v) (ed_var rfl) (ed_var rfl) (by exact inb (hwo.2.2 _ (by assumption))))⟩)))) ed_int)) (fun hb39 => (et_test (ed_neI (ed_var rfl) (ed_sumT (ed_var rfl)))))) (fun hc1 => ?_) (fun hc1 => ?_))
      · exact absurd hc1 (by rw [t1 hpo hwo hc0]; decide)
      · refine s_next ?_
        exact s_le (le_same (le_same (le_same (le_same (le_same (le_same (le_no (le_same (le_same (le_same (le_no (le_no (le_no (le_no (le_no (le_no (le_no (le_no le_nil)))))))))))))))))) hJ0
    · refine (s_if (b := ((!decide ((leftF (bets_v) (kept_v) (step_v) (winners_in_v1)) = ((bets_v).sum - (paidF (bets_v) (winners_in_v1) ((((winF (bets_v) (kept_v) (step_v) (winners_in_v1))).getD default)))))) || (!(((((((winF (bets_v) (kept_v) (step_v) (winners_in_v1))).getD default)).filter fun (x40 : (Option Int)) => ((!(x40).isNone) && (decide ((0 : Int) < (((x40).getD default) % step_v))))).map fun (x40 : (Option Int)) => x40)).isEmpty))) (et_or (et_test (ed_neI (ed_var rfl) (ed_I0 (ed_sumT (ed_var rfl)) (ed_call (ds := [((eT PyData.int) bets_v), ((eT PyData.int) winners_in_v1), ((eT (eO PyData.int)) (((winF (bets_v) (kept_v) (step_v) (winners_in_v1))).getD default))]) (ea_cons (ed_var rfl) (ea_cons (ed_var rfl) (ea_cons (ed_is (ed_var rfl) (eO_get (f := (eT (eO PyData.int))) (by first | exact some_a (by assumption) | exact some_b (by assumption) | exact cover_some hc7 (by have := List.mem_range.mp (by assumption); omega) (by assumption)) : _ = ((eT (eO PyData.int)) (((winF (bets_v) (kept_v) (step_v) (winners_in_v1))).getD default)))) ea_nil))) ⟨bets_v, winners_in_v1, (((winF (bets_v) (kept_v) (step_v) (winners_in_v1))).getD default), rfl, by assumption, by assumption, by exact left_a hwo (by assumption) hpo hko hso.1, rfl⟩)))) (fun hb43 => (et_truL (ed_L (el_lcPX (xs := (((winF (bets_v) (kept_v) (step_v) (winners_in_v1))).getD default)) (ea := fun x => Itm.hard ((eO PyData.int) x)) (p := fun (x40 : (Option Int)) => ((!(x40).isNone) && (decide ((0 : Int) < (((x40).getD default) % step_v))))) (enc := (eO PyData.int)) (fb := fun (x40 : (Option Int)) => x40) (ei_tupX (ed_is (ed_var rfl) (eO_get (f := (eT (eO PyData.int))) (by first | exact some_a (by assumption) | exact some_b (by assumption) | exact cover_some hc7 (by have := List.mem_range.mp (by assumption); omega) (by assumption)) : _ = ((eT (eO PyData.int)) (((winF (bets_v) (kept_v) (step_v) (winners_in_v1))).getD default))))) (by first | (simp; done) | omega | (simp; omega) | (rw [(left_a hwo (by assumption) hpo hko hso.1).1]; omega)) (by simp) (fun _ _ x40 hx40 => ⟨_, rfl, (eg_name (by simp)), (et_and (et_test (ed_is (ed_notN (ed_var rfl)) (by rw [isN_eO (fun _ => rfl)] : _ = PyData.bool (!(x40).isNone)))) (fun hb41 => (et_test (ed_B0 (ed_I (ed_intI (ed_is (ed_var rfl) (eO_get (f := PyData.int) (by first | exact some_a (by assumption) | exact some_b (by assumption) | exact cover_some hc7 (by have := List.mem_range.mp (by assumption); omega) (by assumption)) : _ = (PyData.int ((x40).getD default))))) (ed_intI (ed_var rfl)) (by omega)) ed_int)))), fun hp42 => (ed_var rfl)⟩)))))) (fun hc2 => ?_) (fun hc2 => ?_))
      · exact absurd hc2 (by rw [t2 hso.1 hc0]; decide)
      · refine (s_if (b := (decide ((((bets_v).sum * (((kept_v).den : Int) - (kept_v).num)) / ((kept_v).den : Int)) < (paidF (bets_v) (winners_in_v1) ((((winF (bets_v) (kept_v) (step_v) (winners_in_v1))).getD default)))))) (et_test (ed_B0 (ed_call (ds := [((eT PyData.int) bets_v), ((eT PyData.int) winners_in_v1), ((eT (eO PyData.int)) (((winF (bets_v) (kept_v) (step_v) (winners_in_v1))).getD default))]) (ea_cons (ed_var rfl) (ea_cons (ed_var rfl) (ea_cons (ed_is (ed_var rfl) (eO_get (f := (eT (eO PyData.int))) (by first | exact some_a (by assumption) | exact some_b (by assumption) | exact cover_some hc7 (by have := List.mem_range.mp (by assumption); omega) (by assumption)) : _ = ((eT (eO PyData.int)) (((winF (bets_v) (kept_v) (step_v) (winners_in_v1))).getD default)))) ea_nil))) ⟨bets_v, winners_in_v1, (((winF (bets_v) (kept_v) (step_v) (winners_in_v1))).getD default), rfl, by assumption, by assumption, by exact left_a hwo (by assumption) hpo hko hso.1, rfl⟩) (ed_I (ed_I (ed_sumT (ed_var rfl)) (ed_I0 (ed_ixT (ed_var rfl) ed_int rfl) (ed_ixT (ed_var rfl) ed_int rfl)) (by exact mul_l (by omega) (by omega))) (ed_ixT (ed_var rfl) ed_int rfl) (by exact div_b (by omega) (small_lt (by omega)))))) (fun hc3 => ?_) (fun hc3 => ?_))
        · exact absurd hc3 (by rw [t3 hpo hko hso.1 hwo hc0]; decide)
        · refine s_next ?_
          exact s_le (le_same (le_same (le_same (le_same (le_same (le_same (le_no (le_same (le_same (le_same (le_no (le_no (le_no (le_no (le_no (le_no (le_no (le_no le_nil)))))))))))))))))) hJ0
    refine s_seq (s_asg (ed_call (ds := [((eT PyData.int) bets_v), (eQ kept_v), (PyData.int step_v)]) (ea_cons (ed_var rfl) (ea_cons (ed_var rfl) (ea_cons (ed_var rfl) ea_nil))) ⟨bets_v, kept_v, step_v, rfl, by assumption, by assumption, by assumption, rfl⟩) (s_le (ρ1 := [.mu false a (.any StOk), .da (PyData.int many_v), .da (PyData.int top_v), .da ((eT PyData.int) bets_v), .da (eQ kept_v), .da (PyData.int step_v), .no, .da ((eT PyData.int) winners_in_v1), .da ((eO (eT (eO PyData.int))) (winF (bets_v) (kept_v) (step_v) (winners_in_v1))), .da (PyData.int (leftF (bets_v) (kept_v) (step_v) (winners_in_v1))), .no, .da ((eT (eO PyData.int)) (aloneF (bets_v) (kept_v) (step_v))), .no, .no, .no, .no, .no, .no]) (le_rfl rfl) ?_))
    refine s_seq (s_if (b := ((!PyData.eqv ((eT (eO PyData.int)) (((aloneF (bets_v) (kept_v) (step_v))).reverse)) ((eT (eO PyData.int)) (aloneF ((bets_v).reverse) (kept_v) (step_v)))) || (!(((((List.range (many_v).toNat)).filter fun (x44 : Nat) => (!decide (((ixG (aloneF (bets_v) (kept_v) (step_v)) (x44 : Int))).isNone = (decide ((ixG bets_v (x44 : Int)) = (0 : Int)))))).map fun (x44 : Nat) => (x44 : Int))).isEmpty))) (et_or (et_test (ed_ne (ed_revT (ed_var rfl)) (ed_call (ds := [((eT PyData.int) (bets_v).reverse), (eQ kept_v), (PyData.int step_v)]) (ea_cons (ed_revT (ed_var rfl)) (ea_cons (ed_var rfl) (ea_cons (ed_var rfl) ea_nil))) ⟨(bets_v).reverse, kept_v, step_v, rfl, by exact pool_rev hpo, by assumption, by assumption, rfl⟩) (by first | exact shaped_TO _ | exact shaped_OTO _ | exact shaped_eO _ | rfl) (by first | exact shaped_TO _ | exact shaped_OTO _ | exact shaped_eO _ | rfl))) (fun hb46 => (et_truL (ed_L (el_lcPX (xs := (List.range (many_v).toNat)) (ea := fun (i : Nat) => Itm.hard (PyData.int (i : Int))) (p := fun (x44 : Nat) => (!decide (((ixG (aloneF (bets_v) (kept_v) (step_v)) (x44 : Int))).isNone = (decide ((ixG bets_v (x44 : Int)) = (0 : Int)))))) (enc := PyData.int) (fb := fun (x44 : Nat) => (x44 : Int)) (ei_rng (ed_var rfl) (by omega)) (by first | (simp; done) | omega | (simp; omega) | (rw [(left_a hwo (by assumption) hpo hko hso.1).1]; omega)) (by simp) (fun _ _ x44 hx44 => ⟨_, rfl, (eg_name (by simp)), (et_test (ed_neB (ed_is (ed_isN (ed_ixTX (f := (eO PyData.int)) (l := (aloneF (bets_v) (kept_v) (step_v))) (ed_var rfl) (ed_var rfl) (by first | exact inb (by omega) | exact inb (by have := List.mem_range.mp (by assumption); omega) | exact inb (by rw [alone_len, (wide_ok hpo hrr (by omega)).1]; exact hrr) | exact inb (by have := List.mem_range.mp (by assumption); have := cover_len hc7; omega)))) (by rw [isN_eO (fun _ => rfl)] : _ = PyData.bool ((ixG (aloneF (bets_v) (kept_v) (step_v)) (x44 : Int))).isNone)) (ed_eqI (ed_ixTX (f := PyData.int) (l := bets_v) (ed_var rfl) (ed_var rfl) (by first | exact inb (by omega) | exact inb (by have := List.mem_range.mp (by assumption); omega) | exact inb (by rw [alone_len, (wide_ok hpo hrr (by omega)).1]; exact hrr) | exact inb (by have := List.mem_range.mp (by assumption); have := cover_len hc7; omega))) ed_int))), fun hp45 => (ed_var rfl)⟩)))))) (fun hc4 => ?_) (fun hc4 => ?_))
    · exact absurd hc4 (by rw [t4 hpo hko hso.1 hbl]; decide)
    · refine s_next ?_
      refine s_seq (s_forX ((List.range (many_v).toNat)) (fun (i : Nat) => Itm.hard (PyData.int (i : Int))) (ei_rng (ed_var rfl) (by omega)) (fun i0 => [.mu false a (.any StOk), .da (PyData.int many_v), .da (PyData.int top_v), .da ((eT PyData.int) bets_v), .da (eQ kept_v), .da (PyData.int step_v), .no, .da ((eT PyData.int) winners_in_v1), .da ((eO (eT (eO PyData.int))) (winF (bets_v) (kept_v) (step_v) (winners_in_v1))), .da (PyData.int (leftF (bets_v) (kept_v) (step_v) (winners_in_v1))), .no, .da ((eT (eO PyData.int)) (aloneF (bets_v) (kept_v) (step_v))), .no, .no, .no, .no, .no, .no]) (le_same (le_same (le_same (le_same (le_same (le_same (le_no (le_same (le_same (le_same (le_no (le_same (le_no (le_no (le_no (le_no (le_no (le_no le_nil)))))))))))))))))) (fun T0 hT0 i0 x0 hx0 => ⟨_, [6], (eg_name (by simp)), ?_⟩) ?_)
      · show Ss _ _ [.mu false a (.any StOk), .da (PyData.int many_v), .da (PyData.int top_v), .da ((eT PyData.int) bets_v), .da (eQ kept_v), .da (PyData.int step_v), .da (PyData.int (x0 : Int)), .da ((eT PyData.int) winners_in_v1), .da ((eO (eT (eO PyData.int))) (winF (bets_v) (kept_v) (step_v) (winners_in_v1))), .da (PyData.int (leftF (bets_v) (kept_v) (step_v) (winners_in_v1))), .no, .da ((eT (eO PyData.int)) (aloneF (bets_v) (kept_v) (step_v))), .no, .no, .no, .no, .no, .no] _ _
        have hlt0 := (rng_get hx0).2
        refine s_le (ρ1 := [.mu false a (.any StOk), .da (PyData.int many_v), .da (PyData.int top_v), .da ((eT PyData.int) bets_v), .da (eQ kept_v), .da (PyData.int step_v), .da (PyData.int (i0 : Int)), .da ((eT PyData.int) winners_in_v1), .da ((eO (eT (eO PyData.int))) (winF (bets_v) (kept_v) (step_v) (winners_in_v1))), .da (PyData.int (leftF (bets_v) (kept_v) (step_v) (winners_in_v1))), .no, .da ((eT (eO PyData.int)) (aloneF (bets_v) (kept_v) (step_v))), .no, .no, .no, .no, .no, .no]) (le_rfl (by rw [(rng_get hx0).1])) ?_
        refine (s_if (b := ((decide ((0 : Int) < (ixG bets_v (i0 : Int)))) && (!PyData.eqv ((eO (eT (eO PyData.int))) (winF (bets_v) (kept_v) (step_v) ([(i0 : Int)]))) ((eO (eT (eO PyData.int))) (some [(ixG (aloneF (bets_v) (kept_v) (step_v)) (i0 : Int))]))))) (et_and (et_test (ed_B0 (ed_ixTX (f := PyData.int) (l := bets_v) (ed_var rfl) (ed_var rfl) (by first | exact inb (by omega) | exact inb (by have := List.mem_range.mp (by assumption); omega) | exact inb (by rw [alone_len, (wide_ok hpo hrr (by omega)).1]; exact hrr) | exact inb (by have := List.mem_range.mp (by assumption); have := cover_len hc7; omega))) ed_int)) (fun hb47 => (et_test (ed_ne (ed_call (ds := [((eT PyData.int) bets_v), (eQ kept_v), (PyData.int step_v), ((eT PyData.int) [(i0 : Int)])]) (ea_cons (ed_var rfl) (ea_cons (ed_var rfl) (ea_cons (ed_var rfl) (ea_cons (ed_tup (ds := [(PyData.int (i0 : Int))]) (ea_cons (ed_var rfl) ea_nil)) ea_nil)))) ⟨bets_v, kept_v, step_v, [(i0 : Int)], rfl, by assumption, by assumption, by assumption, by exact winOk_one (by omega), rfl⟩) (ed_is (ed_tup (ds := [((eO PyData.int) (ixG (aloneF (bets_v) (kept_v) (step_v)) (i0 : Int)))]) (ea_cons (ed_ixTX (f := (eO PyData.int)) (l := (aloneF (bets_v) (kept_v) (step_v))) (ed_var rfl) (ed_var rfl) (by first | exact inb (by omega) | exact inb (by have := List.mem_range.mp (by assumption); omega) | exact inb (by rw [alone_len, (wide_ok hpo hrr (by omega)).1]; exact hrr) | exact inb (by have := List.mem_range.mp (by assumption); have := cover_len hc7; omega))) ea_nil)) (rfl : _ = ((eO (eT (eO PyData.int))) (some [(ixG (aloneF (bets_v) (kept_v) (step_v)) (i0 : Int))])))) (by first | exact shaped_TO _ | exact shaped_OTO _ | exact shaped_eO _ | rfl) (by first | exact shaped_TO _ | exact shaped_OTO _ | exact shaped_eO _ | rfl))))) (fun hc5 => ?_) (fun hc5 => ?_))
        · exact absurd hc5 (by rw [t5 hpo hko hso.1 (by omega)]; decide)
        · refine s_next ?_
          exact s_end (le_same (le_same (le_same (le_same (le_same (le_same (le_no (le_same (le_same (le_same (le_no (le_same (le_no (le_no (le_no (le_no (le_no (le_no le_nil))))))))))))))))))
      refine s_seq (s_parW (ew_drawD (i := 0) (ed_var rfl) rfl rfl (by omega)) (ew_op (e := PyData.int) (F := (fun _ y49 => ((1 : Int) + y49))) (ew_det (f := PyData.int) (x := (1 : Int)) ed_int) (ew_drawD (i := 0) ed_int rfl rfl (by omega)) (fun x48 y49 hx50 hy51 _ _ _ ha52 hb53 => by subst hx50; exact (ed_I0 ha52 hb53))) (fun runner_v stake_v h_runner_v h_stake_v => s_le (ρ1 := [.mu false a (.any StOk), .da (PyData.int many_v), .da (PyData.int top_v), .da ((eT PyData.int) bets_v), .da (eQ kept_v), .da (PyData.int step_v), .no, .da ((eT PyData.int) winners_in_v1), .da ((eO (eT (eO PyData.int))) (winF (bets_v) (kept_v) (step_v) (winners_in_v1))), .da (PyData.int (leftF (bets_v) (kept_v) (step_v) (winners_in_v1))), .no, .da ((eT (eO PyData.int)) (aloneF (bets_v) (kept_v) (step_v))), .da (PyData.int runner_v), .da (PyData.int stake_v), .no, .no, .no, .no]) (le_rfl rfl) ?_))
      try dsimp only at h_runner_v
      try dsimp only at h_stake_v
      have hrr : 0 ≤ runner_v ∧ runner_v < bets_v.length := by omega
      have hst : 1 ≤ stake_v ∧ stake_v ≤ 1000 := by omega
      have hbr := bet_at hpo hrr
      refine s_seq (s_asg (ed_is (ed_catT (f := PyData.int) (l := ((cutX bets_v none (some runner_v)) ++ [((ixG bets_v runner_v) + stake_v)])) (m := (cutX bets_v (some (runner_v + (1 : Int))) none)) (ed_catT (f := PyData.int) (l := (cutX bets_v none (some runner_v))) (m := [((ixG bets_v runner_v) + stake_v)]) (ed_sliceT (ed_var rfl) eo_no (eo_some (ed_var rfl))) (ed_tup (ds := [(PyData.int ((ixG bets_v runner_v) + stake_v))]) (ea_cons (ed_I0 (ed_ixTX (f := PyData.int) (l := bets_v) (ed_var rfl) (ed_var rfl) (by first | exact inb (by omega) | exact inb (by have := List.mem_range.mp (by assumption); omega) | exact inb (by rw [alone_len, (wide_ok hpo hrr (by omega)).1]; exact hrr) | exact inb (by have := List.mem_range.mp (by assumption); have := cover_len hc7; omega))) (ed_var rfl)) ea_nil)) (by have h1 := cutX_le bets_v none (some runner_v); have h2 := cutX_le bets_v (some (runner_v + 1)) none; simp; omega)) (ed_sliceT (ed_var rfl) (eo_some (ed_I0 (ed_var rfl) ed_int)) eo_no) (by have h1 := cutX_le bets_v none (some runner_v); have h2 := cutX_le bets_v (some (runner_v + 1)) none; simp; omega)) (by exact congrArg (eT PyData.int) (cut_imp hrr) : _ = ((eT PyData.int) ((bets_v).take (runner_v).toNat ++ [ixG bets_v runner_v + stake_v] ++ (bets_v).drop ((runner_v).toNat + 1))))) (s_le (ρ1 := [.mu false a (.any StOk), .da (PyData.int many_v), .da (PyData.int top_v), .da ((eT PyData.int) bets_v), .da (eQ kept_v), .da (PyData.int step_v), .no, .da ((eT PyData.int) winners_in_v1), .da ((eO (eT (eO PyData.int))) (winF (bets_v) (kept_v) (step_v) (winners_in_v1))), .da (PyData.int (leftF (bets_v) (kept_v) (step_v) (winners_in_v1))), .no, .da ((eT (eO PyData.int)) (aloneF (bets_v) (kept_v) (step_v))), .da (PyData.int runner_v), .da (PyData.int stake_v), .da ((eT PyData.int) ((bets_v).take (runner_v).toNat ++ [ixG bets_v runner_v + stake_v] ++ (bets_v).drop ((runner_v).toNat + 1))), .no, .no, .no]) (le_rfl rfl) ?_))
      refine s_seq (s_if (b := ((decide (((ixG bets_v runner_v) + stake_v) ≤ (1000000 : Int))) && (!PyData.eqv (PyData.int (impF (bets_v) (kept_v) (step_v) (runner_v) (stake_v))) ((eO PyData.int) (ixG (aloneF (((bets_v).take (runner_v).toNat ++ [ixG bets_v runner_v + stake_v] ++ (bets_v).drop ((runner_v).toNat + 1))) (kept_v) (step_v)) runner_v))))) (et_and (et_test (ed_B0 (ed_I0 (ed_ixTX (f := PyData.int) (l := bets_v) (ed_var rfl) (ed_var rfl) (by first | exact inb (by omega) | exact inb (by have := List.mem_range.mp (by assumption); omega) | exact inb (by rw [alone_len, (wide_ok hpo hrr (by omega)).1]; exact hrr) | exact inb (by have := List.mem_range.mp (by assumption); have := cover_len hc7; omega))) (ed_var rfl)) ed_int)) (fun hb55 => (et_test (ed_ne (ed_call (ds := [((eT PyData.int) bets_v), (eQ kept_v), (PyData.int step_v), (PyData.int runner_v), (PyData.int stake_v)]) (ea_cons (ed_var rfl) (ea_cons (ed_var rfl) (ea_cons (ed_var rfl) (ea_cons (ed_var rfl) (ea_cons (ed_var rfl) ea_nil))))) ⟨bets_v, kept_v, step_v, runner_v, stake_v, rfl, by assumption, by assumption, by assumption, by assumption, by assumption, rfl⟩) (ed_ixTX (f := (eO PyData.int)) (l := (aloneF (((bets_v).take (runner_v).toNat ++ [ixG bets_v runner_v + stake_v] ++ (bets_v).drop ((runner_v).toNat + 1))) (kept_v) (step_v))) (ed_call (ds := [((eT PyData.int) ((bets_v).take (runner_v).toNat ++ [ixG bets_v runner_v + stake_v] ++ (bets_v).drop ((runner_v).toNat + 1))), (eQ kept_v), (PyData.int step_v)]) (ea_cons (ed_var rfl) (ea_cons (ed_var rfl) (ea_cons (ed_var rfl) ea_nil))) ⟨((bets_v).take (runner_v).toNat ++ [ixG bets_v runner_v + stake_v] ++ (bets_v).drop ((runner_v).toNat + 1)), kept_v, step_v, rfl, by exact more_ok hpo hrr (by have := of_decide_eq_true (by assumption : decide (ixG bets_v runner_v + stake_v ≤ 1000000) = true); omega), by assumption, by assumption, rfl⟩) (ed_var rfl) (by first | exact inb (by omega) | exact inb (by have := List.mem_range.mp (by assumption); omega) | exact inb (by rw [alone_len, (wide_ok hpo hrr (by omega)).1]; exact hrr) | exact inb (by have := List.mem_range.mp (by assumption); have := cover_len hc7; omega))) (by first | exact shaped_TO _ | exact shaped_OTO _ | exact shaped_eO _ | rfl) (by first | exact shaped_TO _ | exact shaped_OTO _ | exact shaped_eO _ | rfl))))) (fun hc6 => ?_) (fun hc6 => ?_))
      · exact absurd hc6 (by rw [t6 hpo hko hso.1 hrr hst]; decide)
      · refine s_next ?_
        refine s_seq (s_asgGW (ws := [15, 16]) (ρ1 := [.mu false a (.any StOk), .da (PyData.int many_v), .da (PyData.int top_v), .da ((eT PyData.int) bets_v), .da (eQ kept_v), .da (PyData.int step_v), .no, .da ((eT PyData.int) winners_in_v1), .da ((eO (eT (eO PyData.int))) (winF (bets_v) (kept_v) (step_v) (winners_in_v1))), .da (PyData.int (leftF (bets_v) (kept_v) (step_v) (winners_in_v1))), .no, .da ((eT (eO PyData.int)) (aloneF (bets_v) (kept_v) (step_v))), .da (PyData.int runner_v), .da (PyData.int stake_v), .da ((eT PyData.int) ((bets_v).take (runner_v).toNat ++ [ixG bets_v runner_v + stake_v] ++ (bets_v).drop ((runner_v).toNat + 1))), .no, .no, .no]) (ρ2 := fun q67 => [.mu false a (.any StOk), .da (PyData.int many_v), .da (PyData.int top_v), .da ((eT PyData.int) bets_v), .da (eQ kept_v), .da (PyData.int step_v), .no, .da ((eT PyData.int) winners_in_v1), .da ((eO (eT (eO PyData.int))) (winF (bets_v) (kept_v) (step_v) (winners_in_v1))), .da (PyData.int (leftF (bets_v) (kept_v) (step_v) (winners_in_v1))), .no, .da ((eT (eO PyData.int)) (aloneF (bets_v) (kept_v) (step_v))), .da (PyData.int runner_v), .da (PyData.int stake_v), .da ((eT PyData.int) ((bets_v).take (runner_v).toNat ++ [ixG bets_v runner_v + stake_v] ++ (bets_v).drop ((runner_v).toNat + 1))), .da (PyData.int (q67).1), .da ((eT (eO PyData.int)) (q67).2), .no]) (ew_as (g := (eP PyData.int (eT (eO PyData.int)))) (R := (fun q66 => (fun z62 => ∃ x56 y57, (fun y => y = (1 : Int)) x56 ∧ (fun x => 0 ≤ x ∧ x < (5000 : Int)) y57 ∧ z62 = (fun _ y57 => ((1 : Int) + y57)) x56 y57) q66.1 ∧ (fun y => y = (capF ((aloneF (bets_v) (kept_v) (step_v))))) q66.2)) (ew_tup (ds := fun p : Int × (List (Option Int)) × Unit => [(PyData.int p.1), ((eT (eO PyData.int)) p.2.1)]) (n := 2) (ewa_cons (f := PyData.int) (P := (fun z62 => ∃ x56 y57, (fun y => y = (1 : Int)) x56 ∧ (fun x => 0 ≤ x ∧ x < (5000 : Int)) y57 ∧ z62 = (fun _ y57 => ((1 : Int) + y57)) x56 y57)) (by exact (ew_op (e := PyData.int) (F := (fun _ y57 => ((1 : Int) + y57))) (ew_det (f := PyData.int) (x := (1 : Int)) ed_int) (ew_drawD (i := 0) ed_int rfl rfl (by omega)) (fun x56 y57 hx58 hy59 _ _ _ ha60 hb61 => by subst hx58; exact (ed_I0 ha60 hb61)))) (ewa_cons (f := (fun l : List (Option Int) => PyData.tuple (l.map (eO PyData.int)))) (P := (fun y => y = (capF ((aloneF (bets_v) (kept_v) (step_v)))))) (by exact (ew_det (f := (fun l : List (Option Int) => PyData.tuple (l.map (eO PyData.int)))) (x := (capF ((aloneF (bets_v) (kept_v) (step_v))))) (ed_is (ed_tupleL (ed_L (el_lcAX (xs := (aloneF (bets_v) (kept_v) (step_v))) (ea := fun x => Itm.hard ((eO PyData.int) x)) (enc := (eO PyData.int)) (fb := fun (x63 : (Option Int)) => (if ((x63).isNone || (decide ((1000000 : Int) < ((x63).getD default)))) = true then (none : (Option Int)) else x63)) (ei_tupX (ed_var rfl)) (by first | (simp; done) | omega | (simp; omega) | (rw [(left_a hwo (by assumption) hpo hko hso.1).1]; omega)) (by simp) (fun _ _ x63 hx63 => ⟨_, rfl, (eg_name (by simp)), (ed_ite (e := (eO PyData.int)) (et_or (et_test (ed_is (ed_isN (ed_var rfl)) (by rw [isN_eO (fun _ => rfl)] : _ = PyData.bool (x63).isNone))) (fun hb64 => (et_test (ed_B0 (ed_is (ed_var rfl) (eO_get (f := PyData.int) (by first | exact some_a (by assumption) | exact some_b (by assumption) | exact cover_some hc7 (by have := List.mem_range.mp (by assumption); omega) (by assumption)) : _ = (PyData.int ((x63).getD default)))) ed_int)))) (fun hb65 => (ed_is ed_non (rfl : _ = ((eO PyData.int) (none : (Option Int)))))) (fun hb65 => (ed_var rfl)))⟩)))) (by rfl : _ = ((eT (eO PyData.int)) (capF ((aloneF (bets_v) (kept_v) (step_v))))))))) ewa_nil)) (fun _ => rfl)) (fun p hp => ⟨(p.1, p.2.1), ⟨hp.1, hp.2.1⟩, rfl⟩)) (fun q67 hq68 => (eg_tup (egs_cons (eg_name (by simp)) (egs_cons (eg_name (by simp)) egs_nil)))) (fun q67 hq68 => ?_))
        obtain ⟨money_v, dividends_v⟩ := q67
        obtain ⟨h_money_v, h_dividends_v⟩ := hq68
        refine s_le (ρ1 := [.mu false a (.any StOk), .da (PyData.int many_v), .da (PyData.int top_v), .da ((eT PyData.int) bets_v), .da (eQ kept_v), .da (PyData.int step_v), .no, .da ((eT PyData.int) winners_in_v1), .da ((eO (eT (eO PyData.int))) (winF (bets_v) (kept_v) (step_v) (winners_in_v1))), .da (PyData.int (leftF (bets_v) (kept_v) (step_v) (winners_in_v1))), .no, .da ((eT (eO PyData.int)) (aloneF (bets_v) (kept_v) (step_v))), .da (PyData.int runner_v), .da (PyData.int stake_v), .da ((eT PyData.int) ((bets_v).take (runner_v).toNat ++ [ixG bets_v runner_v + stake_v] ++ (bets_v).drop ((runner_v).toNat + 1))), .da (PyData.int money_v), .da ((eT (eO PyData.int)) dividends_v), .no]) (le_rfl rfl) ?_
        try dsimp only at h_money_v
        try dsimp only at h_dividends_v
        have hmo : 1 ≤ money_v ∧ money_v ≤ 1000000 := by omega
        have hdo : DivOk dividends_v := h_dividends_v ▸ cap_ok hpo hko hso.1
        have hdl : (dividends_v.length : Int) = many_v := by rw [h_dividends_v, cap_len]; exact hbl
        refine s_seq (s_asg (ed_call (ds := [((eT (eO PyData.int)) dividends_v), (PyData.int money_v)]) (ea_cons (ed_var rfl) (ea_cons (ed_var rfl) ea_nil)) ⟨dividends_v, money_v, rfl, by assumption, by assumption, rfl⟩) (s_le (ρ1 := [.mu false a (.any StOk), .da (PyData.int many_v), .da (PyData.int top_v), .da ((eT PyData.int) bets_v), .da (eQ kept_v), .da (PyData.int step_v), .no, .da ((eT PyData.int) winners_in_v1), .da ((eO (eT (eO PyData.int))) (winF (bets_v) (kept_v) (step_v) (winners_in_v1))), .da (PyData.int (leftF (bets_v) (kept_v) (step_v) (winners_in_v1))), .no, .da ((eT (eO PyData.int)) (aloneF (bets_v) (kept_v) (step_v))), .da (PyData.int runner_v), .da (PyData.int stake_v), .da ((eT PyData.int) ((bets_v).take (runner_v).toNat ++ [ixG bets_v runner_v + stake_v] ++ (bets_v).drop ((runner_v).toNat + 1))), .da (PyData.int money_v), .da ((eT (eO PyData.int)) dividends_v), .da ((eO (eT PyData.int)) (coverF (dividends_v) (money_v)))]) (le_rfl rfl) ?_))
        refine s_seq (s_if (b := ((coverF (dividends_v) (money_v))).isNone) (et_test (ed_is (ed_isN (ed_var rfl)) (by rw [isN_eO (fun _ => rfl)] : _ = PyData.bool ((coverF (dividends_v) (money_v))).isNone))) (fun hc7 => ?_) (fun hc7 => ?_))
        · exact s_retW (i := 0) (ew_det (f := PyData.bool) (x := true) ed_bl) rfl hR (fun x hx => by subst hx; exact hΦ _ rfl)
        · refine s_next ?_
          refine s_seq (s_if (b := ((decide (money_v ≤ ((((coverF (dividends_v) (money_v))).getD default)).sum)) || (!(((((List.range (many_v).toNat)).filter fun (x69 : Nat) => ((!((ixG dividends_v (x69 : Int))).isNone) && (decide ((((ixG (((coverF (dividends_v) (money_v))).getD default) (x69 : Int)) * (((ixG dividends_v (x69 : Int))).getD default)) / (100 : Int)) < money_v)))).map fun (x69 : Nat) => (x69 : Int))).isEmpty))) (et_or (et_test (ed_B0 (ed_sumT (ed_is (ed_var rfl) (eO_get (f := (eT PyData.int)) (by first | exact some_a (by assumption) | exact some_b (by assumption) | exact cover_some hc7 (by have := List.mem_range.mp (by assumption); omega) (by assumption)) : _ = ((eT PyData.int) (((coverF (dividends_v) (money_v))).getD default))))) (ed_var rfl))) (fun hb72 => (et_truL (ed_L (el_lcPX (xs := (List.range (many_v).toNat)) (ea := fun (i : Nat) => Itm.hard (PyData.int (i : Int))) (p := fun (x69 : Nat) => ((!((ixG dividends_v (x69 : Int))).isNone) && (decide ((((ixG (((coverF (dividends_v) (money_v))).getD default) (x69 : Int)) * (((ixG dividends_v (x69 : Int))).getD default)) / (100 : Int)) < money_v)))) (enc := PyData.int) (fb := fun (x69 : Nat) => (x69 : Int)) (ei_rng (ed_var rfl) (by omega)) (by first | (simp; done) | omega | (simp; omega) | (rw [(left_a hwo (by assumption) hpo hko hso.1).1]; omega)) (by simp) (fun _ _ x69 hx69 => ⟨_, rfl, (eg_name (by simp)), (et_and (et_test (ed_is (ed_notN (ed_ixTX (f := (eO PyData.int)) (l := dividends_v) (ed_var rfl) (ed_var rfl) (by first | exact inb (by omega) | exact inb (by have := List.mem_range.mp (by assumption); omega) | exact inb (by rw [alone_len, (wide_ok hpo hrr (by omega)).1]; exact hrr) | exact inb (by have := List.mem_range.mp (by assumption); have := cover_len hc7; omega)))) (by rw [isN_eO (fun _ => rfl)] : _ = PyData.bool (!((ixG dividends_v (x69 : Int))).isNone)))) (fun hb70 => (et_test (ed_B0 (ed_I (ed_I (ed_ixTX (f := PyData.int) (l := (((coverF (dividends_v) (money_v))).getD default)) (ed_is (ed_var rfl) (eO_get (f := (eT PyData.int)) (by first | exact some_a (by assumption) | exact some_b (by assumption) | exact cover_some hc7 (by have := List.mem_range.mp (by assumption); omega) (by assumption)) : _ = ((eT PyData.int) (((coverF (dividends_v) (money_v))).getD default)))) (ed_var rfl) (by first | exact inb (by omega) | exact inb (by have := List.mem_range.mp (by assumption); omega) | exact inb (by rw [alone_len, (wide_ok hpo hrr (by omega)).1]; exact hrr) | exact inb (by have := List.mem_range.mp (by assumption); have := cover_len hc7; omega))) (ed_is (ed_ixTX (f := (eO PyData.int)) (l := dividends_v) (ed_var rfl) (ed_var rfl) (by first | exact inb (by omega) | exact inb (by have := List.mem_range.mp (by assumption); omega) | exact inb (by rw [alone_len, (wide_ok hpo hrr (by omega)).1]; exact hrr) | exact inb (by have := List.mem_range.mp (by assumption); have := cover_len hc7; omega))) (eO_get (f := PyData.int) (by first | exact some_a (by assumption) | exact some_b (by assumption) | exact cover_some hc7 (by have := List.mem_range.mp (by assumption); omega) (by assumption)) : _ = (PyData.int (((ixG dividends_v (x69 : Int))).getD default)))) (by exact mul_cap hdo (by have := List.mem_range.mp (by assumption); omega) (some_a (by assumption)))) ed_int (by exact div_b (by decide) (small_lt (by decide)))) (ed_var rfl))))), fun hp71 => (ed_var rfl)⟩)))))) (fun hc8 => ?_) (fun hc8 => ?_))
          · exact absurd hc8 (by rw [t8 hdo hc7 hdl]; decide)
          · refine s_next ?_
            refine s_seq (s_if (b := (!(((((List.range (many_v).toNat)).filter fun (x73 : Nat) => ((decide ((0 : Int) < (ixG (((coverF (dividends_v) (money_v))).getD default) (x73 : Int)))) && (decide (money_v ≤ ((((ixG (((coverF (dividends_v) (money_v))).getD default) (x73 : Int)) - (1 : Int)) * (((ixG dividends_v (x73 : Int))).getD default)) / (100 : Int)))))).map fun (x73 : Nat) => (x73 : Int))).isEmpty)) (et_truL (ed_L (el_lcPX (xs := (List.range (many_v).toNat)) (ea := fun (i : Nat) => Itm.hard (PyData.int (i : Int))) (p := fun (x73 : Nat) => ((decide ((0 : Int) < (ixG (((coverF (dividends_v) (money_v))).getD default) (x73 : Int)))) && (decide (money_v ≤ ((((ixG (((coverF (dividends_v) (money_v))).getD default) (x73 : Int)) - (1 : Int)) * (((ixG dividends_v (x73 : Int))).getD default)) / (100 : Int)))))) (enc := PyData.int) (fb := fun (x73 : Nat) => (x73 : Int)) (ei_rng (ed_var rfl) (by omega)) (by first | (simp; done) | omega | (simp; omega) | (rw [(left_a hwo (by assumption) hpo hko hso.1).1]; omega)) (by simp) (fun _ _ x73 hx73 => ⟨_, rfl, (eg_name (by simp)), (et_and (et_test (ed_B0 (ed_ixTX (f := PyData.int) (l := (((coverF (dividends_v) (money_v))).getD default)) (ed_is (ed_var rfl) (eO_get (f := (eT PyData.int)) (by first | exact some_a (by assumption) | exact some_b (by assumption) | exact cover_some hc7 (by have := List.mem_range.mp (by assumption); omega) (by assumption)) : _ = ((eT PyData.int) (((coverF (dividends_v) (money_v))).getD default)))) (ed_var rfl) (by first | exact inb (by omega) | exact inb (by have := List.mem_range.mp (by assumption); omega) | exact inb (by rw [alone_len, (wide_ok hpo hrr (by omega)).1]; exact hrr) | exact inb (by have := List.mem_range.mp (by assumption); have := cover_len hc7; omega))) ed_int)) (fun hb74 => (et_test (ed_B0 (ed_I (ed_I (ed_I0 (ed_ixTX (f := PyData.int) (l := (((coverF (dividends_v) (money_v))).getD default)) (ed_is (ed_var rfl) (eO_get (f := (eT PyData.int)) (by first | exact some_a (by assumption) | exact some_b (by assumption) | exact cover_some hc7 (by have := List.mem_range.mp (by assumption); omega) (by assumption)) : _ = ((eT PyData.int) (((coverF (dividends_v) (money_v))).getD default)))) (ed_var rfl) (by first | exact inb (by omega) | exact inb (by have := List.mem_range.mp (by assumption); omega) | exact inb (by rw [alone_len, (wide_ok hpo hrr (by omega)).1]; exact hrr) | exact inb (by have := List.mem_range.mp (by assumption); have := cover_len hc7; omega))) ed_int) (ed_is (ed_ixTX (f := (eO PyData.int)) (l := dividends_v) (ed_var rfl) (ed_var rfl) (by first | exact inb (by omega) | exact inb (by have := List.mem_range.mp (by assumption); omega) | exact inb (by rw [alone_len, (wide_ok hpo hrr (by omega)).1]; exact hrr) | exact inb (by have := List.mem_range.mp (by assumption); have := cover_len hc7; omega))) (eO_get (f := PyData.int) (by first | exact some_a (by assumption) | exact some_b (by assumption) | exact cover_some hc7 (by have := List.mem_range.mp (by assumption); omega) (by assumption)) : _ = (PyData.int (((ixG dividends_v (x73 : Int))).getD default)))) (by exact mul_cap hdo (by have := List.mem_range.mp (by assumption); omega) (cover_some hc7 (by have := List.mem_range.mp (by assumption); omega) (by assumption)))) ed_int (by exact div_b (by decide) (small_lt (by decide)))) (ed_var rfl))))), fun hp75 => (ed_var rfl)⟩)))) (fun hc9 => ?_) (fun hc9 => ?_))
            · exact absurd hc9 (by rw [t9 hdo hc7 hdl]; decide)
            · refine s_next ?_
              exact s_retW (i := 0) (ew_det (f := PyData.bool) (x := (isNone PyData.none)) (ed_isN (ed_call (ds := [((eT (eO PyData.int)) dividends_v), (PyData.int money_v), ((eT PyData.int) (((coverF (dividends_v) (money_v))).getD default))]) (ea_cons (ed_var rfl) (ea_cons (ed_var rfl) (ea_cons (ed_is (ed_var rfl) (eO_get (f := (eT PyData.int)) (by first | exact some_a (by assumption) | exact some_b (by assumption) | exact cover_some hc7 (by have := List.mem_range.mp (by assumption); omega) (by assumption)) : _ = ((eT PyData.int) (((coverF (dividends_v) (money_v))).getD default)))) ea_nil))) ⟨dividends_v, money_v, (((coverF (dividends_v) (money_v))).getD default), rfl, by assumption, by assumption, by exact cov_ok hdo hmo (by assumption), rfl⟩))) rfl hR (fun x hx => by subst hx; exact hΦ _ rfl)

/-! ### law -/
abbrev s_law : Stmt := topS 69
abbrev N_law : List Str := ["script", "state"]
theorem sc_law : FnScope N_law ["script"] (defScope s_law) := ⟨rfl, rfl, rfl, by decide +kernel, rfl, by decide +kernel, by decide +kernel⟩
def R_law : List PyData → PyData → Prop := fun ds d => ∃ (script : (List Int)), ds = [((eL PyData.int) script)] ∧ (script.length ≤ 100000) ∧ d = (PyData.bool (true))
set_option maxHeartbeats 4000000 in
theorem ok_law {P : Program} {w : World} {K : PySem.W.Frag} {mg : Str → Option Value} {base : Heap} (B : Gb K mg) {f : Addr} {fd : FuncData} (F : Fun K "law" "law" s_law f fd) (C_law_pools_hold : Cl P w K mg base 7 "_law_pools_hold" ["state"] (SpW K R_law_pools_hold)) (C_law_slips_hold : Cl P w K mg base 7 "_law_slips_hold" ["state"] (SpW K R_law_slips_hold)) (C_law_start : Cl P w K mg base 1 "_law_start" ["script"] (SpL K R_law_start)) : FnG P w K mg base 8 f fd ["script"] (SpP K R_top) := by
  have BG := B
  refine fnG_of (k := 7) F sc_law (spP_len fun ds d h => ?_) (fun cdv A outer s H hr hgd => ⟨_, (pss_cons (ps_set (i := 1) sc_law.nd rfl (Or.inl rfl) (pe_cl C_law_start (hr.mono (by decide)) hgd (by rfl) (pa_cons (pv 0) pa_nil))) (pss_one (ps_ret (pe_and (pe_cl C_law_slips_hold (hr.mono (by decide)) hgd (by rfl) (pa_cons (pv 1) pa_nil)) (pe_and (pe_cl C_law_slips_hold (hr.mono (by decide)) hgd (by rfl) (pa_cons (pv 1) pa_nil)) (pe_and (pe_cl C_law_pools_hold (hr.mono (by decide)) hgd (by rfl) (pa_cons (pv 1) pa_nil)) (pe_one (pe_cl C_law_pools_hold (hr.mono (by decide)) hgd (by rfl) (pa_cons (pv 1) pa_nil))))))))), fun vs Q => fn_pure (N := N_law) (fun ds d h => ?_) (fun B S ds d h D hR hN => ?_) vs H Q E0⟩)
  · obtain ⟨script, rfl, h0, rfl⟩ := h; rfl
  · obtain ⟨script, rfl, h0, rfl⟩ := h; simp
  · obtain ⟨script, rfl, h0, rfl⟩ := h
    show Ss _ _ [.da ((eL PyData.int) script), .no] _ _
    refine s_seq (s_state (i := 1) (l := script) (s := seedOf script) (el_callL (ds := [((eL PyData.int) script)]) (ea_cons (ed_var rfl) ea_nil) ⟨_, rfl, by exact h0, rfl⟩) (fun p_state => s_le (ρ1 := [.da ((eL PyData.int) script), .mu true p_state (.any StOk)]) (le_rfl rfl) ?_))
    exact s_retP (ew_andV (ew_callWD (i := 1) (e := PyData.bool) (P3 := (fun z => z = true)) (ds := []) (ea_raw rfl ea_nil) rfl ⟨rfl, fun z hz => ⟨z, hz, rfl⟩⟩) (fun hb3 => (ew_andV (ew_callWD (i := 1) (e := PyData.bool) (P3 := (fun z => z = true)) (ds := []) (ea_raw rfl ea_nil) rfl ⟨rfl, fun z hz => ⟨z, hz, rfl⟩⟩) (fun hb2 => (ew_andV (ew_callWD (i := 1) (e := PyData.bool) (P3 := (fun z => z = true)) (ds := []) (ea_raw rfl ea_nil) rfl ⟨rfl, fun z hz => ⟨z, hz, rfl⟩⟩) (fun hb1 => (ew_callWD (i := 1) (e := PyData.bool) (P3 := (fun z => z = true)) (ds := []) (ea_raw rfl ea_nil) rfl ⟨rfl, fun z hz => ⟨z, hz, rfl⟩⟩))))))) (fun x hx => by (try dsimp only at hx); (rcases hx with ⟨h, _⟩ | ⟨_, ⟨h, _⟩ | ⟨_, ⟨h, _⟩ | ⟨_, h⟩⟩⟩) <;> first | exact absurd h (by decide) | (subst h; exact hR))


/-! ### what the top has written; the law -/
theorem all_mk {l : PySem.W.OpenLaw} {w : World} {K : PySem.W.Frag} {h : Heap} {mg : Str → Option Value} {fa f0 f1 f2 f3 f4 f5 f6 f7 f8 f9 f10 f11 f12 f13 f14 f15 f16 f17 f18 f19 f20 f21 f22 f23 f24 f25 f26 f27 f28 f29 f30 f31 f32 f33 f34 f35 f36 f37 f38 f39 f40 f41 f42 f43 f44 f45 f46 f47 f48 f49 f50 f51 f52 f53 f54 f55 : Addr} {od0 an0 od1 an1 od2 an2 od3 an3 od4 an4 od5 an5 od6 an6 od7 an7 od8 an8 od9 an9 od10 an10 od11 an11 od12 an12 od13 an13 od14 an14 od15 an15 od16 an16 od17 an17 od18 an18 od19 an19 od20 an20 od21 an21 od22 an22 od23 an23 od24 an24 od25 an25 od26 an26 od27 an27 od28 an28 od29 an29 od30 an30 od31 an31 od32 an32 od33 an33 od34 an34 od35 an35 od36 an36 od37 an37 od38 an38 od39 an39 od40 an40 od41 an41 od42 an42 od43 an43 od44 an44 od45 an45 od46 an46 od47 an47 od48 an48 od49 an49 od50 an50 od51 an51 od52 an52 od53 an53 od54 an54 od55 an55 : Option Addr} {sl0 sl1 sl2 sl3 sl4 sl5 sl6 sl7 sl8 sl9 sl10 sl11 sl12 sl13 sl14 sl15 sl16 sl17 sl18 sl19 sl20 sl21 sl22 sl23 sl24 sl25 sl26 sl27 sl28 sl29 sl30 sl31 sl32 sl33 sl34 sl35 sl36 sl37 sl38 sl39 sl40 sl41 sl42 sl43 sl44 sl45 sl46 sl47 sl48 sl49 sl50 sl51 sl52 sl53 sl54 sl55 : Array (Option Value)} {oc0 kV0 dc0 pm0 cd0 ct0 oc1 kV1 dc1 pm1 cd1 ct1 oc2 kV2 dc2 pm2 cd2 ct2 oc3 kV3 dc3 pm3 cd3 ct3 oc4 kV4 dc4 pm4 cd4 ct4 oc5 kV5 dc5 pm5 cd5 ct5 oc6 kV6 dc6 pm6 cd6 ct6 oc7 kV7 dc7 pm7 cd7 ct7 oc8 kV8 dc8 pm8 cd8 ct8 oc9 kV9 dc9 pm9 cd9 ct9 oc10 kV10 dc10 pm10 cd10 ct10 oc11 kV11 dc11 pm11 cd11 ct11 oc12 kV12 dc12 pm12 cd12 ct12 oc13 kV13 dc13 pm13 cd13 ct13 oc14 kV14 dc14 pm14 cd14 ct14 oc15 kV15 dc15 pm15 cd15 ct15 oc16 kV16 dc16 pm16 cd16 ct16 oc17 kV17 dc17 pm17 cd17 ct17 oc18 kV18 dc18 pm18 cd18 ct18 oc19 kV19 dc19 pm19 cd19 ct19 oc20 kV20 dc20 pm20 cd20 ct20 oc21 kV21 dc21 pm21 cd21 ct21 oc22 kV22 dc22 pm22 cd22 ct22 oc23 kV23 dc23 pm23 cd23 ct23 oc24 kV24 dc24 pm24 cd24 ct24 oc25 kV25 dc25 pm25 cd25 ct25 oc26 kV26 dc26 pm26 cd26 ct26 oc27 kV27 dc27 pm27 cd27 ct27 oc28 kV28 dc28 pm28 cd28 ct28 oc29 kV29 dc29 pm29 cd29 ct29 oc30 kV30 dc30 pm30 cd30 ct30 oc31 kV31 dc31 pm31 cd31 ct31 oc32 kV32 dc32 pm32 cd32 ct32 oc33 kV33 dc33 pm33 cd33 ct33 oc34 kV34 dc34 pm34 cd34 ct34 oc35 kV35 dc35 pm35 cd35 ct35 oc36 kV36 dc36 pm36 cd36 ct36 oc37 kV37 dc37 pm37 cd37 ct37 oc38 kV38 dc38 pm38 cd38 ct38 oc39 kV39 dc39 pm39 cd39 ct39 oc40 kV40 dc40 pm40 cd40 ct40 oc41 kV41 dc41 pm41 cd41 ct41 oc42 kV42 dc42 pm42 cd42 ct42 oc43 kV43 dc43 pm43 cd43 ct43 oc44 kV44 dc44 pm44 cd44 ct44 oc45 kV45 dc45 pm45 cd45 ct45 oc46 kV46 dc46 pm46 cd46 ct46 oc47 kV47 dc47 pm47 cd47 ct47 oc48 kV48 dc48 pm48 cd48 ct48 oc49 kV49 dc49 pm49 cd49 ct49 oc50 kV50 dc50 pm50 cd50 ct50 oc51 kV51 dc51 pm51 cd51 ct51 oc52 kV52 dc52 pm52 cd52 ct52 oc53 kV53 dc53 pm53 cd53 ct53 oc54 kV54 dc54 pm54 cd54 ct54 oc55 kV55 dc55 pm55 cd55 ct55 : Value} (X : K.In h) (G : h.Ns mainGlobals mg) (hfa : mg "law" = some (.ref fa))
    (a0 : PySem.W.nsIn K mainGlobals "_law_start" = some (some (.ref f0))) (l0 : K.lookup f0 = some ⟨oc0, od0, .func (PySem.W.fnOf "_law_start" "_law_start" (defArgs s_law_start) (defBody s_law_start) (defScope s_law_start) .none kV0 dc0 pm0 an0 cd0 ct0), sl0⟩) (c0 : PySem.W.codeIn K cd0 "_law_start" = true) (k0 : PySem.W.keepIn K (.ref f0) = true)
    (a1 : PySem.W.nsIn K mainGlobals "_law_draw" = some (some (.ref f1))) (l1 : K.lookup f1 = some ⟨oc1, od1, .func (PySem.W.fnOf "_law_draw" "_law_draw" (defArgs s_law_draw) (defBody s_law_draw) (defScope s_law_draw) .none kV1 dc1 pm1 an1 cd1 ct1), sl1⟩) (c1 : PySem.W.codeIn K cd1 "_law_draw" = true) (k1 : PySem.W.keepIn K (.ref f1) = true)
    (a2 : PySem.W.nsIn K mainGlobals "_law_pick" = some (some (.ref f2))) (l2 : K.lookup f2 = some ⟨oc2, od2, .func (PySem.W.fnOf "_law_pick" "_law_pick" (defArgs s_law_pick) (defBody s_law_pick) (defScope s_law_pick) .none kV2 dc2 pm2 an2 cd2 ct2), sl2⟩) (c2 : PySem.W.codeIn K cd2 "_law_pick" = true) (k2 : PySem.W.keepIn K (.ref f2) = true)
    (a3 : PySem.W.nsIn K mainGlobals "is_integer" = some (some (.ref f3))) (l3 : K.lookup f3 = some ⟨oc3, od3, .func (PySem.W.fnOf "is_integer" "is_integer" (defArgs s_is_integer) (defBody s_is_integer) (defScope s_is_integer) .none kV3 dc3 pm3 an3 cd3 ct3), sl3⟩) (c3 : PySem.W.codeIn K cd3 "is_integer" = true) (k3 : PySem.W.keepIn K (.ref f3) = true)
    (a4 : PySem.W.nsIn K mainGlobals "greatest_divisor" = some (some (.ref f4))) (l4 : K.lookup f4 = some ⟨oc4, od4, .func (PySem.W.fnOf "greatest_divisor" "greatest_divisor" (defArgs s_greatest_divisor) (defBody s_greatest_divisor) (defScope s_greatest_divisor) .none kV4 dc4 pm4 an4 cd4 ct4), sl4⟩) (c4 : PySem.W.codeIn K cd4 "greatest_divisor" = true) (k4 : PySem.W.keepIn K (.ref f4) = true)
    (a5 : PySem.W.nsIn K mainGlobals "quotient" = some (some (.ref f5))) (l5 : K.lookup f5 = some ⟨oc5, od5, .func (PySem.W.fnOf "quotient" "quotient" (defArgs s_quotient) (defBody s_quotient) (defScope s_quotient) .none kV5 dc5 pm5 an5 cd5 ct5), sl5⟩) (c5 : PySem.W.codeIn K cd5 "quotient" = true) (k5 : PySem.W.keepIn K (.ref f5) = true)
    (a6 : PySem.W.nsIn K mainGlobals "plus" = some (some (.ref f6))) (l6 : K.lookup f6 = some ⟨oc6, od6, .func (PySem.W.fnOf "plus" "plus" (defArgs s_plus) (defBody s_plus) (defScope s_plus) .none kV6 dc6 pm6 an6 cd6 ct6), sl6⟩) (c6 : PySem.W.codeIn K cd6 "plus" = true) (k6 : PySem.W.keepIn K (.ref f6) = true)
    (a7 : PySem.W.nsIn K mainGlobals "times" = some (some (.ref f7))) (l7 : K.lookup f7 = some ⟨oc7, od7, .func (PySem.W.fnOf "times" "times" (defArgs s_times) (defBody s_times) (defScope s_times) .none kV7 dc7 pm7 an7 cd7 ct7), sl7⟩) (c7 : PySem.W.codeIn K cd7 "times" = true) (k7 : PySem.W.keepIn K (.ref f7) = true)
    (a8 : PySem.W.nsIn K mainGlobals "is_quotient" = some (some (.ref f8))) (l8 : K.lookup f8 = some ⟨oc8, od8, .func (PySem.W.fnOf "is_quotient" "is_quotient" (defArgs s_is_quotient) (defBody s_is_quotient) (defScope s_is_quotient) .none kV8 dc8 pm8 an8 cd8 ct8), sl8⟩) (c8 : PySem.W.codeIn K cd8 "is_quotient" = true) (k8 : PySem.W.keepIn K (.ref f8) = true)
    (a9 : PySem.W.nsIn K mainGlobals "choose" = some (some (.ref f9))) (l9 : K.lookup f9 = some ⟨oc9, od9, .func (PySem.W.fnOf "choose" "choose" (defArgs s_choose) (defBody s_choose) (defScope s_choose) .none kV9 dc9 pm9 an9 cd9 ct9), sl9⟩) (c9 : PySem.W.codeIn K cd9 "choose" = true) (k9 : PySem.W.keepIn K (.ref f9) = true)
    (a10 : PySem.W.nsIn K mainGlobals "_law_q" = some (some (.ref f10))) (l10 : K.lookup f10 = some ⟨oc10, od10, .func (PySem.W.fnOf "_law_q" "_law_q" (defArgs s_law_q) (defBody s_law_q) (defScope s_law_q) .none kV10 dc10 pm10 an10 cd10 ct10), sl10⟩) (c10 : PySem.W.codeIn K cd10 "_law_q" = true) (k10 : PySem.W.keepIn K (.ref f10) = true)
    (a11 : PySem.W.nsIn K mainGlobals "_law_add" = some (some (.ref f11))) (l11 : K.lookup f11 = some ⟨oc11, od11, .func (PySem.W.fnOf "_law_add" "_law_add" (defArgs s_law_add) (defBody s_law_add) (defScope s_law_add) .none kV11 dc11 pm11 an11 cd11 ct11), sl11⟩) (c11 : PySem.W.codeIn K cd11 "_law_add" = true) (k11 : PySem.W.keepIn K (.ref f11) = true)
    (a12 : PySem.W.nsIn K mainGlobals "_law_mul" = some (some (.ref f12))) (l12 : K.lookup f12 = some ⟨oc12, od12, .func (PySem.W.fnOf "_law_mul" "_law_mul" (defArgs s_law_mul) (defBody s_law_mul) (defScope s_law_mul) .none kV12 dc12 pm12 an12 cd12 ct12), sl12⟩) (c12 : PySem.W.codeIn K cd12 "_law_mul" = true) (k12 : PySem.W.keepIn K (.ref f12) = true)
    (a13 : PySem.W.nsIn K mainGlobals "_law_sum" = some (some (.ref f13))) (l13 : K.lookup f13 = some ⟨oc13, od13, .func (PySem.W.fnOf "_law_sum" "_law_sum" (defArgs s_law_sum) (defBody s_law_sum) (defScope s_law_sum) .none kV13 dc13 pm13 an13 cd13 ct13), sl13⟩) (c13 : PySem.W.codeIn K cd13 "_law_sum" = true) (k13 : PySem.W.keepIn K (.ref f13) = true)
    (a14 : PySem.W.nsIn K mainGlobals "_law_choose" = some (some (.ref f14))) (l14 : K.lookup f14 = some ⟨oc14, od14, .func (PySem.W.fnOf "_law_choose" "_law_choose" (defArgs s_law_choose) (defBody s_law_choose) (defScope s_law_choose) .none kV14 dc14 pm14 an14 cd14 ct14), sl14⟩) (c14 : PySem.W.codeIn K cd14 "_law_choose" = true) (k14 : PySem.W.keepIn K (.ref f14) = true)
    (a15 : PySem.W.nsIn K mainGlobals "_law_same" = some (some (.ref f15))) (l15 : K.lookup f15 = some ⟨oc15, od15, .func (PySem.W.fnOf "_law_same" "_law_same" (defArgs s_law_same) (defBody s_law_same) (defScope s_law_same) .none kV15 dc15 pm15 an15 cd15 ct15), sl15⟩) (c15 : PySem.W.codeIn K cd15 "_law_same" = true) (k15 : PySem.W.keepIn K (.ref f15) = true)
    (a16 : PySem.W.nsIn K mainGlobals "_law_less" = some (some (.ref f16))) (l16 : K.lookup f16 = some ⟨oc16, od16, .func (PySem.W.fnOf "_law_less" "_law_less" (defArgs s_law_less) (defBody s_law_less) (defScope s_law_less) .none kV16 dc16 pm16 an16 cd16 ct16), sl16⟩) (c16 : PySem.W.codeIn K cd16 "_law_less" = true) (k16 : PySem.W.keepIn K (.ref f16) = true)
    (a17 : PySem.W.nsIn K mainGlobals "is_leg" = some (some (.ref f17))) (l17 : K.lookup f17 = some ⟨oc17, od17, .func (PySem.W.fnOf "is_leg" "is_leg" (defArgs s_is_leg) (defBody s_is_leg) (defScope s_is_leg) .none kV17 dc17 pm17 an17 cd17 ct17), sl17⟩) (c17 : PySem.W.codeIn K cd17 "is_leg" = true) (k17 : PySem.W.keepIn K (.ref f17) = true)
    (a18 : PySem.W.nsIn K mainGlobals "check_legs" = some (some (.ref f18))) (l18 : K.lookup f18 = some ⟨oc18, od18, .func (PySem.W.fnOf "check_legs" "check_legs" (defArgs s_check_legs) (defBody s_check_legs) (defScope s_check_legs) .none kV18 dc18 pm18 an18 cd18 ct18), sl18⟩) (c18 : PySem.W.codeIn K cd18 "check_legs" = true) (k18 : PySem.W.keepIn K (.ref f18) = true)
    (a19 : PySem.W.nsIn K mainGlobals "check_sizes" = some (some (.ref f19))) (l19 : K.lookup f19 = some ⟨oc19, od19, .func (PySem.W.fnOf "check_sizes" "check_sizes" (defArgs s_check_sizes) (defBody s_check_sizes) (defScope s_check_sizes) .none kV19 dc19 pm19 an19 cd19 ct19), sl19⟩) (c19 : PySem.W.codeIn K cd19 "check_sizes" = true) (k19 : PySem.W.keepIn K (.ref f19) = true)
    (a20 : PySem.W.nsIn K mainGlobals "check_stake" = some (some (.ref f20))) (l20 : K.lookup f20 = some ⟨oc20, od20, .func (PySem.W.fnOf "check_stake" "check_stake" (defArgs s_check_stake) (defBody s_check_stake) (defScope s_check_stake) .none kV20 dc20 pm20 an20 cd20 ct20), sl20⟩) (c20 : PySem.W.codeIn K cd20 "check_stake" = true) (k20 : PySem.W.keepIn K (.ref f20) = true)
    (a21 : PySem.W.nsIn K mainGlobals "factor_of" = some (some (.ref f21))) (l21 : K.lookup f21 = some ⟨oc21, od21, .func (PySem.W.fnOf "factor_of" "factor_of" (defArgs s_factor_of) (defBody s_factor_of) (defScope s_factor_of) .none kV21 dc21 pm21 an21 cd21 ct21), sl21⟩) (c21 : PySem.W.codeIn K cd21 "factor_of" = true) (k21 : PySem.W.keepIn K (.ref f21) = true)
    (a22 : PySem.W.nsIn K mainGlobals "sums_of" = some (some (.ref f22))) (l22 : K.lookup f22 = some ⟨oc22, od22, .func (PySem.W.fnOf "sums_of" "sums_of" (defArgs s_sums_of) (defBody s_sums_of) (defScope s_sums_of) .none kV22 dc22 pm22 an22 cd22 ct22), sl22⟩) (c22 : PySem.W.codeIn K cd22 "sums_of" = true) (k22 : PySem.W.keepIn K (.ref f22) = true)
    (a23 : PySem.W.nsIn K mainGlobals "product_of" = some (some (.ref f23))) (l23 : K.lookup f23 = some ⟨oc23, od23, .func (PySem.W.fnOf "product_of" "product_of" (defArgs s_product_of) (defBody s_product_of) (defScope s_product_of) .none kV23 dc23 pm23 an23 cd23 ct23), sl23⟩) (c23 : PySem.W.codeIn K cd23 "product_of" = true) (k23 : PySem.W.keepIn K (.ref f23) = true)
    (a24 : PySem.W.nsIn K mainGlobals "count_lines" = some (some (.ref f24))) (l24 : K.lookup f24 = some ⟨oc24, od24, .func (PySem.W.fnOf "count_lines" "count_lines" (defArgs s_count_lines) (defBody s_count_lines) (defScope s_count_lines) .none kV24 dc24 pm24 an24 cd24 ct24), sl24⟩) (c24 : PySem.W.codeIn K cd24 "count_lines" = true) (k24 : PySem.W.keepIn K (.ref f24) = true)
    (a25 : PySem.W.nsIn K mainGlobals "cost" = some (some (.ref f25))) (l25 : K.lookup f25 = some ⟨oc25, od25, .func (PySem.W.fnOf "cost" "cost" (defArgs s_cost) (defBody s_cost) (defScope s_cost) .none kV25 dc25 pm25 an25 cd25 ct25), sl25⟩) (c25 : PySem.W.codeIn K cd25 "cost" = true) (k25 : PySem.W.keepIn K (.ref f25) = true)
    (a26 : PySem.W.nsIn K mainGlobals "returned" = some (some (.ref f26))) (l26 : K.lookup f26 = some ⟨oc26, od26, .func (PySem.W.fnOf "returned" "returned" (defArgs s_returned) (defBody s_returned) (defScope s_returned) .none kV26 dc26 pm26 an26 cd26 ct26), sl26⟩) (c26 : PySem.W.codeIn K cd26 "returned" = true) (k26 : PySem.W.keepIn K (.ref f26) = true)
    (a27 : PySem.W.nsIn K mainGlobals "rows_of" = some (some (.ref f27))) (l27 : K.lookup f27 = some ⟨oc27, od27, .func (PySem.W.fnOf "rows_of" "rows_of" (defArgs s_rows_of) (defBody s_rows_of) (defScope s_rows_of) .none kV27 dc27 pm27 an27 cd27 ct27), sl27⟩) (c27 : PySem.W.codeIn K cd27 "rows_of" = true) (k27 : PySem.W.keepIn K (.ref f27) = true)
    (a28 : PySem.W.nsIn K mainGlobals "lines" = some (some (.ref f28))) (l28 : K.lookup f28 = some ⟨oc28, od28, .func (PySem.W.fnOf "lines" "lines" (defArgs s_lines) (defBody s_lines) (defScope s_lines) .none kV28 dc28 pm28 an28 cd28 ct28), sl28⟩) (c28 : PySem.W.codeIn K cd28 "lines" = true) (k28 : PySem.W.keepIn K (.ref f28) = true)
    (a29 : PySem.W.nsIn K mainGlobals "rounding" = some (some (.ref f29))) (l29 : K.lookup f29 = some ⟨oc29, od29, .func (PySem.W.fnOf "rounding" "rounding" (defArgs s_rounding) (defBody s_rounding) (defScope s_rounding) .none kV29 dc29 pm29 an29 cd29 ct29), sl29⟩) (c29 : PySem.W.codeIn K cd29 "rounding" = true) (k29 : PySem.W.keepIn K (.ref f29) = true)
    (a30 : PySem.W.nsIn K mainGlobals "mean_return" = some (some (.ref f30))) (l30 : K.lookup f30 = some ⟨oc30, od30, .func (PySem.W.fnOf "mean_return" "mean_return" (defArgs s_mean_return) (defBody s_mean_return) (defScope s_mean_return) .none kV30 dc30 pm30 an30 cd30 ct30), sl30⟩) (c30 : PySem.W.codeIn K cd30 "mean_return" = true) (k30 : PySem.W.keepIn K (.ref f30) = true)
    (a31 : PySem.W.nsIn K mainGlobals "fair_price" = some (some (.ref f31))) (l31 : K.lookup f31 = some ⟨oc31, od31, .func (PySem.W.fnOf "fair_price" "fair_price" (defArgs s_fair_price) (defBody s_fair_price) (defScope s_fair_price) .none kV31 dc31 pm31 an31 cd31 ct31), sl31⟩) (c31 : PySem.W.codeIn K cd31 "fair_price" = true) (k31 : PySem.W.keepIn K (.ref f31) = true)
    (a32 : PySem.W.nsIn K mainGlobals "sorted_prices" = some (some (.ref f32))) (l32 : K.lookup f32 = some ⟨oc32, od32, .func (PySem.W.fnOf "sorted_prices" "sorted_prices" (defArgs s_sorted_prices) (defBody s_sorted_prices) (defScope s_sorted_prices) .none kV32 dc32 pm32 an32 cd32 ct32), sl32⟩) (c32 : PySem.W.codeIn K cd32 "sorted_prices" = true) (k32 : PySem.W.keepIn K (.ref f32) = true)
    (a33 : PySem.W.nsIn K mainGlobals "least_winners" = some (some (.ref f33))) (l33 : K.lookup f33 = some ⟨oc33, od33, .func (PySem.W.fnOf "least_winners" "least_winners" (defArgs s_least_winners) (defBody s_least_winners) (defScope s_least_winners) .none kV33 dc33 pm33 an33 cd33 ct33), sl33⟩) (c33 : PySem.W.codeIn K cd33 "least_winners" = true) (k33 : PySem.W.keepIn K (.ref f33) = true)
    (a34 : PySem.W.nsIn K mainGlobals "is_chance" = some (some (.ref f34))) (l34 : K.lookup f34 = some ⟨oc34, od34, .func (PySem.W.fnOf "is_chance" "is_chance" (defArgs s_is_chance) (defBody s_is_chance) (defScope s_is_chance) .none kV34 dc34 pm34 an34 cd34 ct34), sl34⟩) (c34 : PySem.W.codeIn K cd34 "is_chance" = true) (k34 : PySem.W.keepIn K (.ref f34) = true)
    (a35 : PySem.W.nsIn K mainGlobals "check_pool" = some (some (.ref f35))) (l35 : K.lookup f35 = some ⟨oc35, od35, .func (PySem.W.fnOf "check_pool" "check_pool" (defArgs s_check_pool) (defBody s_check_pool) (defScope s_check_pool) .none kV35 dc35 pm35 an35 cd35 ct35), sl35⟩) (c35 : PySem.W.codeIn K cd35 "check_pool" = true) (k35 : PySem.W.keepIn K (.ref f35) = true)
    (a36 : PySem.W.nsIn K mainGlobals "check_terms" = some (some (.ref f36))) (l36 : K.lookup f36 = some ⟨oc36, od36, .func (PySem.W.fnOf "check_terms" "check_terms" (defArgs s_check_terms) (defBody s_check_terms) (defScope s_check_terms) .none kV36 dc36 pm36 an36 cd36 ct36), sl36⟩) (c36 : PySem.W.codeIn K cd36 "check_terms" = true) (k36 : PySem.W.keepIn K (.ref f36) = true)
    (a37 : PySem.W.nsIn K mainGlobals "check_winners" = some (some (.ref f37))) (l37 : K.lookup f37 = some ⟨oc37, od37, .func (PySem.W.fnOf "check_winners" "check_winners" (defArgs s_check_winners) (defBody s_check_winners) (defScope s_check_winners) .none kV37 dc37 pm37 an37 cd37 ct37), sl37⟩) (c37 : PySem.W.codeIn K cd37 "check_winners" = true) (k37 : PySem.W.keepIn K (.ref f37) = true)
    (a38 : PySem.W.nsIn K mainGlobals "net_pool" = some (some (.ref f38))) (l38 : K.lookup f38 = some ⟨oc38, od38, .func (PySem.W.fnOf "net_pool" "net_pool" (defArgs s_net_pool) (defBody s_net_pool) (defScope s_net_pool) .none kV38 dc38 pm38 an38 cd38 ct38), sl38⟩) (c38 : PySem.W.codeIn K cd38 "net_pool" = true) (k38 : PySem.W.keepIn K (.ref f38) = true)
    (a39 : PySem.W.nsIn K mainGlobals "dividend" = some (some (.ref f39))) (l39 : K.lookup f39 = some ⟨oc39, od39, .func (PySem.W.fnOf "dividend" "dividend" (defArgs s_dividend) (defBody s_dividend) (defScope s_dividend) .none kV39 dc39 pm39 an39 cd39 ct39), sl39⟩) (c39 : PySem.W.codeIn K cd39 "dividend" = true) (k39 : PySem.W.keepIn K (.ref f39) = true)
    (a40 : PySem.W.nsIn K mainGlobals "win_dividends" = some (some (.ref f40))) (l40 : K.lookup f40 = some ⟨oc40, od40, .func (PySem.W.fnOf "win_dividends" "win_dividends" (defArgs s_win_dividends) (defBody s_win_dividends) (defScope s_win_dividends) .none kV40 dc40 pm40 an40 cd40 ct40), sl40⟩) (c40 : PySem.W.codeIn K cd40 "win_dividends" = true) (k40 : PySem.W.keepIn K (.ref f40) = true)
    (a41 : PySem.W.nsIn K mainGlobals "check_dividends" = some (some (.ref f41))) (l41 : K.lookup f41 = some ⟨oc41, od41, .func (PySem.W.fnOf "check_dividends" "check_dividends" (defArgs s_check_dividends) (defBody s_check_dividends) (defScope s_check_dividends) .none kV41 dc41 pm41 an41 cd41 ct41), sl41⟩) (c41 : PySem.W.codeIn K cd41 "check_dividends" = true) (k41 : PySem.W.keepIn K (.ref f41) = true)
    (a42 : PySem.W.nsIn K mainGlobals "check_sum" = some (some (.ref f42))) (l42 : K.lookup f42 = some ⟨oc42, od42, .func (PySem.W.fnOf "check_sum" "check_sum" (defArgs s_check_sum) (defBody s_check_sum) (defScope s_check_sum) .none kV42 dc42 pm42 an42 cd42 ct42), sl42⟩) (c42 : PySem.W.codeIn K cd42 "check_sum" = true) (k42 : PySem.W.keepIn K (.ref f42) = true)
    (a43 : PySem.W.nsIn K mainGlobals "cover_all" = some (some (.ref f43))) (l43 : K.lookup f43 = some ⟨oc43, od43, .func (PySem.W.fnOf "cover_all" "cover_all" (defArgs s_cover_all) (defBody s_cover_all) (defScope s_cover_all) .none kV43 dc43 pm43 an43 cd43 ct43), sl43⟩) (c43 : PySem.W.codeIn K cd43 "cover_all" = true) (k43 : PySem.W.keepIn K (.ref f43) = true)
    (a44 : PySem.W.nsIn K mainGlobals "paid_out" = some (some (.ref f44))) (l44 : K.lookup f44 = some ⟨oc44, od44, .func (PySem.W.fnOf "paid_out" "paid_out" (defArgs s_paid_out) (defBody s_paid_out) (defScope s_paid_out) .none kV44 dc44 pm44 an44 cd44 ct44), sl44⟩) (c44 : PySem.W.codeIn K cd44 "paid_out" = true) (k44 : PySem.W.keepIn K (.ref f44) = true)
    (a45 : PySem.W.nsIn K mainGlobals "left_over" = some (some (.ref f45))) (l45 : K.lookup f45 = some ⟨oc45, od45, .func (PySem.W.fnOf "left_over" "left_over" (defArgs s_left_over) (defBody s_left_over) (defScope s_left_over) .none kV45 dc45 pm45 an45 cd45 ct45), sl45⟩) (c45 : PySem.W.codeIn K cd45 "left_over" = true) (k45 : PySem.W.keepIn K (.ref f45) = true)
    (a46 : PySem.W.nsIn K mainGlobals "dividends_by_runner" = some (some (.ref f46))) (l46 : K.lookup f46 = some ⟨oc46, od46, .func (PySem.W.fnOf "dividends_by_runner" "dividends_by_runner" (defArgs s_dividends_by_runner) (defBody s_dividends_by_runner) (defScope s_dividends_by_runner) .none kV46 dc46 pm46 an46 cd46 ct46), sl46⟩) (c46 : PySem.W.codeIn K cd46 "dividends_by_runner" = true) (k46 : PySem.W.keepIn K (.ref f46) = true)
    (a47 : PySem.W.nsIn K mainGlobals "accept_cover" = some (some (.ref f47))) (l47 : K.lookup f47 = some ⟨oc47, od47, .func (PySem.W.fnOf "accept_cover" "accept_cover" (defArgs s_accept_cover) (defBody s_accept_cover) (defScope s_accept_cover) .none kV47 dc47 pm47 an47 cd47 ct47), sl47⟩) (c47 : PySem.W.codeIn K cd47 "accept_cover" = true) (k47 : PySem.W.keepIn K (.ref f47) = true)
    (a48 : PySem.W.nsIn K mainGlobals "impact" = some (some (.ref f48))) (l48 : K.lookup f48 = some ⟨oc48, od48, .func (PySem.W.fnOf "impact" "impact" (defArgs s_impact) (defBody s_impact) (defScope s_impact) .none kV48 dc48 pm48 an48 cd48 ct48), sl48⟩) (c48 : PySem.W.codeIn K cd48 "impact" = true) (k48 : PySem.W.keepIn K (.ref f48) = true)
    (a49 : PySem.W.nsIn K mainGlobals "_law_legs" = some (some (.ref f49))) (l49 : K.lookup f49 = some ⟨oc49, od49, .func (PySem.W.fnOf "_law_legs" "_law_legs" (defArgs s_law_legs) (defBody s_law_legs) (defScope s_law_legs) .none kV49 dc49 pm49 an49 cd49 ct49), sl49⟩) (c49 : PySem.W.codeIn K cd49 "_law_legs" = true) (k49 : PySem.W.keepIn K (.ref f49) = true)
    (a50 : PySem.W.nsIn K mainGlobals "_law_factor" = some (some (.ref f50))) (l50 : K.lookup f50 = some ⟨oc50, od50, .func (PySem.W.fnOf "_law_factor" "_law_factor" (defArgs s_law_factor) (defBody s_law_factor) (defScope s_law_factor) .none kV50 dc50 pm50 an50 cd50 ct50), sl50⟩) (c50 : PySem.W.codeIn K cd50 "_law_factor" = true) (k50 : PySem.W.keepIn K (.ref f50) = true)
    (a51 : PySem.W.nsIn K mainGlobals "_law_products" = some (some (.ref f51))) (l51 : K.lookup f51 = some ⟨oc51, od51, .func (PySem.W.fnOf "_law_products" "_law_products" (defArgs s_law_products) (defBody s_law_products) (defScope s_law_products) .none kV51 dc51 pm51 an51 cd51 ct51), sl51⟩) (c51 : PySem.W.codeIn K cd51 "_law_products" = true) (k51 : PySem.W.keepIn K (.ref f51) = true)
    (a52 : PySem.W.nsIn K mainGlobals "_law_least" = some (some (.ref f52))) (l52 : K.lookup f52 = some ⟨oc52, od52, .func (PySem.W.fnOf "_law_least" "_law_least" (defArgs s_law_least) (defBody s_law_least) (defScope s_law_least) .none kV52 dc52 pm52 an52 cd52 ct52), sl52⟩) (c52 : PySem.W.codeIn K cd52 "_law_least" = true) (k52 : PySem.W.keepIn K (.ref f52) = true)
    (a53 : PySem.W.nsIn K mainGlobals "_law_slips_hold" = some (some (.ref f53))) (l53 : K.lookup f53 = some ⟨oc53, od53, .func (PySem.W.fnOf "_law_slips_hold" "_law_slips_hold" (defArgs s_law_slips_hold) (defBody s_law_slips_hold) (defScope s_law_slips_hold) .none kV53 dc53 pm53 an53 cd53 ct53), sl53⟩) (c53 : PySem.W.codeIn K cd53 "_law_slips_hold" = true) (k53 : PySem.W.keepIn K (.ref f53) = true)
    (a54 : PySem.W.nsIn K mainGlobals "_law_pools_hold" = some (some (.ref f54))) (l54 : K.lookup f54 = some ⟨oc54, od54, .func (PySem.W.fnOf "_law_pools_hold" "_law_pools_hold" (defArgs s_law_pools_hold) (defBody s_law_pools_hold) (defScope s_law_pools_hold) .none kV54 dc54 pm54 an54 cd54 ct54), sl54⟩) (c54 : PySem.W.codeIn K cd54 "_law_pools_hold" = true) (k54 : PySem.W.keepIn K (.ref f54) = true)
    (a55 : PySem.W.nsIn K mainGlobals "law" = some (some (.ref f55))) (l55 : K.lookup f55 = some ⟨oc55, od55, .func (PySem.W.fnOf "law" "law" (defArgs s_law) (defBody s_law) (defScope s_law) .none kV55 dc55 pm55 an55 cd55 ct55), sl55⟩) (c55 : PySem.W.codeIn K cd55 "law" = true) (k55 : PySem.W.keepIn K (.ref f55) = true)
    (z_abs : PySem.W.nsIn K mainGlobals "abs" = some none)
    (z_all : PySem.W.nsIn K mainGlobals "all" = some none)
    (z_bool : PySem.W.nsIn K mainGlobals "bool" = some none)
    (z_enumerate : PySem.W.nsIn K mainGlobals "enumerate" = some none)
    (z_int : PySem.W.nsIn K mainGlobals "int" = some none)
    (z_isinstance : PySem.W.nsIn K mainGlobals "isinstance" = some none)
    (z_len : PySem.W.nsIn K mainGlobals "len" = some none)
    (z_list : PySem.W.nsIn K mainGlobals "list" = some none)
    (z_max : PySem.W.nsIn K mainGlobals "max" = some none)
    (z_range : PySem.W.nsIn K mainGlobals "range" = some none)
    (z_repr : PySem.W.nsIn K mainGlobals "repr" = some none)
    (z_sorted : PySem.W.nsIn K mainGlobals "sorted" = some none)
    (z_str : PySem.W.nsIn K mainGlobals "str" = some none)
    (z_sum : PySem.W.nsIn K mainGlobals "sum" = some none)
    (z_tuple : PySem.W.nsIn K mainGlobals "tuple" = some none)
    (z_zip : PySem.W.nsIn K mainGlobals "zip" = some none)
    {t_MAX_AMOUNT : Tok} (q_MAX_AMOUNT : PySem.W.nsIn K mainGlobals "MAX_AMOUNT" = some (some (.int 1000000 t_MAX_AMOUNT)))
    {t_MAX_LEGS : Tok} (q_MAX_LEGS : PySem.W.nsIn K mainGlobals "MAX_LEGS" = some (some (.int 10 t_MAX_LEGS)))
    {t_MAX_PART : Tok} (q_MAX_PART : PySem.W.nsIn K mainGlobals "MAX_PART" = some (some (.int 1000 t_MAX_PART)))
    {t_MAX_RUNNERS : Tok} (q_MAX_RUNNERS : PySem.W.nsIn K mainGlobals "MAX_RUNNERS" = some (some (.int 20 t_MAX_RUNNERS)))
    {w_WORDS : Addr} {n_WORDS : Nat} {sl_WORDS : Array (Option Value)} {k0_WORDS : Tok} {k1_WORDS : Tok} {k2_WORDS : Tok} (q_WORDS : PySem.W.nsIn K mainGlobals "WORDS" = some (some (.ref w_WORDS))) (m_WORDS : K.lookup w_WORDS = some ⟨.type "tuple", none, .seq #[.str (Str.ofString "won") k0_WORDS, .str (Str.ofString "lost") k1_WORDS, .str (Str.ofString "void") k2_WORDS] n_WORDS, sl_WORDS⟩)
    : ∃ fd : FuncData, (∀ (s : Shared) (v : Value), BindsTo s fd ⟨[v], []⟩ [("script", v)]) ∧ ∀ base : Heap, K.In base → base.Ns mainGlobals mg → FnG l.prog w K mg base 8 fa fd ["script"] (SpP K R_top) := by
  have e := hfa.symm.trans (PySem.W.mg_of X G a55)
  cases e
  have B : Gb K mg := ⟨PySem.W.mg_none_of X G z_abs, PySem.W.mg_none_of X G z_all, PySem.W.mg_none_of X G z_bool, PySem.W.mg_none_of X G z_enumerate, PySem.W.mg_none_of X G z_int, PySem.W.mg_none_of X G z_isinstance, PySem.W.mg_none_of X G z_len, PySem.W.mg_none_of X G z_list, PySem.W.mg_none_of X G z_max, PySem.W.mg_none_of X G z_range, PySem.W.mg_none_of X G z_repr, PySem.W.mg_none_of X G z_sorted, PySem.W.mg_none_of X G z_str, PySem.W.mg_none_of X G z_sum, PySem.W.mg_none_of X G z_tuple, PySem.W.mg_none_of X G z_zip, ⟨t_MAX_AMOUNT, PySem.W.mg_of X G q_MAX_AMOUNT⟩, ⟨t_MAX_LEGS, PySem.W.mg_of X G q_MAX_LEGS⟩, ⟨t_MAX_PART, PySem.W.mg_of X G q_MAX_PART⟩, ⟨t_MAX_RUNNERS, PySem.W.mg_of X G q_MAX_RUNNERS⟩, ⟨w_WORDS, PySem.W.mg_of X G q_WORDS, fun H => .tup (.inr ⟨_, _, _, m_WORDS, rfl, rfl, rfl, (show 3 ≤ sizeLine by rw [sizeLine_eq]; decide), .cons (show RelV (.str (Str.ofString "won")) _ from ⟨_, rfl⟩) (.cons (show RelV (.str (Str.ofString "lost")) _ from ⟨_, rfl⟩) (.cons (show RelV (.str (Str.ofString "void")) _ from ⟨_, rfl⟩) (.nil)))⟩) (.cons (.str _) (.cons (.str _) (.cons (.str _) .nil)))⟩⟩
  refine ⟨PySem.W.fnOf "law" "law" (defArgs s_law) (defBody s_law) (defScope s_law) .none kV55 dc55 pm55 an55 cd55 ct55, fun s v => .of_eq rfl, fun base _ _ => ?_⟩
  have D0 : Fd K mg "_law_start" s_law_start := ⟨⟨_, _, fun_mk (st := s_law_start) l0 c0 k0, PySem.W.mg_of X G a0⟩⟩
  have C0 := ok_law_start (P := l.prog) (w := w) (base := base) B D0 
  have D1 : Fd K mg "_law_draw" s_law_draw := ⟨⟨_, _, fun_mk (st := s_law_draw) l1 c1 k1, PySem.W.mg_of X G a1⟩⟩
  have C1 := ok_law_draw (P := l.prog) (w := w) (base := base) B D1 
  have D2 : Fd K mg "_law_pick" s_law_pick := ⟨⟨_, _, fun_mk (st := s_law_pick) l2 c2 k2, PySem.W.mg_of X G a2⟩⟩
  have C2 := ok_law_pick (P := l.prog) (w := w) (base := base) B D2 C1
  have D3 : Fd K mg "is_integer" s_is_integer := ⟨⟨_, _, fun_mk (st := s_is_integer) l3 c3 k3, PySem.W.mg_of X G a3⟩⟩
  have C3 := ok_is_integer (P := l.prog) (w := w) (base := base) B D3 
  have D4 : Fd K mg "greatest_divisor" s_greatest_divisor := ⟨⟨_, _, fun_mk (st := s_greatest_divisor) l4 c4 k4, PySem.W.mg_of X G a4⟩⟩
  have C4 := ok_greatest_divisor (P := l.prog) (w := w) (base := base) B D4 
  have D5 : Fd K mg "quotient" s_quotient := ⟨⟨_, _, fun_mk (st := s_quotient) l5 c5 k5, PySem.W.mg_of X G a5⟩⟩
  have C5 := ok_quotient (P := l.prog) (w := w) (base := base) B D5 C4
  have D6 : Fd K mg "plus" s_plus := ⟨⟨_, _, fun_mk (st := s_plus) l6 c6 k6, PySem.W.mg_of X G a6⟩⟩
  have C6 := ok_plus (P := l.prog) (w := w) (base := base) B D6 C5
  have D7 : Fd K mg "times" s_times := ⟨⟨_, _, fun_mk (st := s_times) l7 c7 k7, PySem.W.mg_of X G a7⟩⟩
  have C7 := ok_times (P := l.prog) (w := w) (base := base) B D7 C5
  have D8 : Fd K mg "is_quotient" s_is_quotient := ⟨⟨_, _, fun_mk (st := s_is_quotient) l8 c8 k8, PySem.W.mg_of X G a8⟩⟩
  have C8 := ok_is_quotient (P := l.prog) (w := w) (base := base) B D8 C4 C3
  have D9 : Fd K mg "choose" s_choose := ⟨⟨_, _, fun_mk (st := s_choose) l9 c9 k9, PySem.W.mg_of X G a9⟩⟩
  have C9 := ok_choose (P := l.prog) (w := w) (base := base) B D9 
  have D10 : Fd K mg "_law_q" s_law_q := ⟨⟨_, _, fun_mk (st := s_law_q) l10 c10 k10, PySem.W.mg_of X G a10⟩⟩
  have C10 := ok_law_q (P := l.prog) (w := w) (base := base) B D10 
  have D11 : Fd K mg "_law_add" s_law_add := ⟨⟨_, _, fun_mk (st := s_law_add) l11 c11 k11, PySem.W.mg_of X G a11⟩⟩
  have C11 := ok_law_add (P := l.prog) (w := w) (base := base) B D11 C10
  have D12 : Fd K mg "_law_mul" s_law_mul := ⟨⟨_, _, fun_mk (st := s_law_mul) l12 c12 k12, PySem.W.mg_of X G a12⟩⟩
  have C12 := ok_law_mul (P := l.prog) (w := w) (base := base) B D12 C10
  have D13 : Fd K mg "_law_sum" s_law_sum := ⟨⟨_, _, fun_mk (st := s_law_sum) l13 c13 k13, PySem.W.mg_of X G a13⟩⟩
  have C13 := ok_law_sum (P := l.prog) (w := w) (base := base) B D13 C11
  have D14 : Fd K mg "_law_choose" s_law_choose := ⟨⟨_, _, fun_mk (st := s_law_choose) l14 c14 k14, PySem.W.mg_of X G a14⟩⟩
  have C14 := ok_law_choose (P := l.prog) (w := w) (base := base) B D14 
  have D15 : Fd K mg "_law_same" s_law_same := ⟨⟨_, _, fun_mk (st := s_law_same) l15 c15 k15, PySem.W.mg_of X G a15⟩⟩
  have C15 := ok_law_same (P := l.prog) (w := w) (base := base) B D15 
  have D16 : Fd K mg "_law_less" s_law_less := ⟨⟨_, _, fun_mk (st := s_law_less) l16 c16 k16, PySem.W.mg_of X G a16⟩⟩
  have C16 := ok_law_less (P := l.prog) (w := w) (base := base) B D16 
  have D17 : Fd K mg "is_leg" s_is_leg := ⟨⟨_, _, fun_mk (st := s_is_leg) l17 c17 k17, PySem.W.mg_of X G a17⟩⟩
  have C17 := ok_is_leg (P := l.prog) (w := w) (base := base) B D17 C8
  have D18 : Fd K mg "check_legs" s_check_legs := ⟨⟨_, _, fun_mk (st := s_check_legs) l18 c18 k18, PySem.W.mg_of X G a18⟩⟩
  have C18 := ok_check_legs (P := l.prog) (w := w) (base := base) B D18 C17
  have D19 : Fd K mg "check_sizes" s_check_sizes := ⟨⟨_, _, fun_mk (st := s_check_sizes) l19 c19 k19, PySem.W.mg_of X G a19⟩⟩
  have C19 := ok_check_sizes (P := l.prog) (w := w) (base := base) B D19 C3
  have D20 : Fd K mg "check_stake" s_check_stake := ⟨⟨_, _, fun_mk (st := s_check_stake) l20 c20 k20, PySem.W.mg_of X G a20⟩⟩
  have C20 := ok_check_stake (P := l.prog) (w := w) (base := base) B D20 C3
  have D21 : Fd K mg "factor_of" s_factor_of := ⟨⟨_, _, fun_mk (st := s_factor_of) l21 c21 k21, PySem.W.mg_of X G a21⟩⟩
  have C21 := ok_factor_of (P := l.prog) (w := w) (base := base) B D21 
  have D22 : Fd K mg "sums_of" s_sums_of := ⟨⟨_, _, fun_mk (st := s_sums_of) l22 c22 k22, PySem.W.mg_of X G a22⟩⟩
  have C22 := ok_sums_of (P := l.prog) (w := w) (base := base) B D22 C6 C7
  have D23 : Fd K mg "product_of" s_product_of := ⟨⟨_, _, fun_mk (st := s_product_of) l23 c23 k23, PySem.W.mg_of X G a23⟩⟩
  have C23 := ok_product_of (P := l.prog) (w := w) (base := base) B D23 C7
  have D24 : Fd K mg "count_lines" s_count_lines := ⟨⟨_, _, fun_mk (st := s_count_lines) l24 c24 k24, PySem.W.mg_of X G a24⟩⟩
  have C24 := ok_count_lines (P := l.prog) (w := w) (base := base) B D24 C18 C19 C9
  have D25 : Fd K mg "cost" s_cost := ⟨⟨_, _, fun_mk (st := s_cost) l25 c25 k25, PySem.W.mg_of X G a25⟩⟩
  have C25 := ok_cost (P := l.prog) (w := w) (base := base) B D25 C18 C19 C20 C9
  have D26 : Fd K mg "returned" s_returned := ⟨⟨_, _, fun_mk (st := s_returned) l26 c26 k26, PySem.W.mg_of X G a26⟩⟩
  have C26 := ok_returned (P := l.prog) (w := w) (base := base) B D26 C18 C19 C20 C21 C6 C22 C7
  have D27 : Fd K mg "rows_of" s_rows_of := ⟨⟨_, _, fun_mk (st := s_rows_of) l27 c27 k27, PySem.W.mg_of X G a27⟩⟩
  have C27 := ok_rows_of (P := l.prog) (w := w) (base := base) B D27 
  have D28 : Fd K mg "lines" s_lines := ⟨⟨_, _, fun_mk (st := s_lines) l28 c28 k28, PySem.W.mg_of X G a28⟩⟩
  have C28 := ok_lines (P := l.prog) (w := w) (base := base) B D28 C18 C19 C20 C21 C23 C27
  have D29 : Fd K mg "rounding" s_rounding := ⟨⟨_, _, fun_mk (st := s_rounding) l29 c29 k29, PySem.W.mg_of X G a29⟩⟩
  have C29 := ok_rounding (P := l.prog) (w := w) (base := base) B D29 C28 C6 C26
  have D30 : Fd K mg "mean_return" s_mean_return := ⟨⟨_, _, fun_mk (st := s_mean_return) l30 c30 k30, PySem.W.mg_of X G a30⟩⟩
  have C30 := ok_mean_return (P := l.prog) (w := w) (base := base) B D30 C18 C19 C20 C8 C6 C22 C7
  have D31 : Fd K mg "fair_price" s_fair_price := ⟨⟨_, _, fun_mk (st := s_fair_price) l31 c31 k31, PySem.W.mg_of X G a31⟩⟩
  have C31 := ok_fair_price (P := l.prog) (w := w) (base := base) B D31 C8 C23 C5
  have D32 : Fd K mg "sorted_prices" s_sorted_prices := ⟨⟨_, _, fun_mk (st := s_sorted_prices) l32 c32 k32, PySem.W.mg_of X G a32⟩⟩
  have C32 := ok_sorted_prices (P := l.prog) (w := w) (base := base) B D32 
  have D33 : Fd K mg "least_winners" s_least_winners := ⟨⟨_, _, fun_mk (st := s_least_winners) l33 c33 k33, PySem.W.mg_of X G a33⟩⟩
  have C33 := ok_least_winners (P := l.prog) (w := w) (base := base) B D33 C18 C19 C20 C9 C6 C32 C22
  have D34 : Fd K mg "is_chance" s_is_chance := ⟨⟨_, _, fun_mk (st := s_is_chance) l34 c34 k34, PySem.W.mg_of X G a34⟩⟩
  have C34 := ok_is_chance (P := l.prog) (w := w) (base := base) B D34 C8
  have D35 : Fd K mg "check_pool" s_check_pool := ⟨⟨_, _, fun_mk (st := s_check_pool) l35 c35 k35, PySem.W.mg_of X G a35⟩⟩
  have C35 := ok_check_pool (P := l.prog) (w := w) (base := base) B D35 C3
  have D36 : Fd K mg "check_terms" s_check_terms := ⟨⟨_, _, fun_mk (st := s_check_terms) l36 c36 k36, PySem.W.mg_of X G a36⟩⟩
  have C36 := ok_check_terms (P := l.prog) (w := w) (base := base) B D36 C34 C3
  have D37 : Fd K mg "check_winners" s_check_winners := ⟨⟨_, _, fun_mk (st := s_check_winners) l37 c37 k37, PySem.W.mg_of X G a37⟩⟩
  have C37 := ok_check_winners (P := l.prog) (w := w) (base := base) B D37 C3
  have D38 : Fd K mg "net_pool" s_net_pool := ⟨⟨_, _, fun_mk (st := s_net_pool) l38 c38 k38, PySem.W.mg_of X G a38⟩⟩
  have C38 := ok_net_pool (P := l.prog) (w := w) (base := base) B D38 
  have D39 : Fd K mg "dividend" s_dividend := ⟨⟨_, _, fun_mk (st := s_dividend) l39 c39 k39, PySem.W.mg_of X G a39⟩⟩
  have C39 := ok_dividend (P := l.prog) (w := w) (base := base) B D39 
  have D40 : Fd K mg "win_dividends" s_win_dividends := ⟨⟨_, _, fun_mk (st := s_win_dividends) l40 c40 k40, PySem.W.mg_of X G a40⟩⟩
  have C40 := ok_win_dividends (P := l.prog) (w := w) (base := base) B D40 C35 C36 C37 C39 C38
  have D41 : Fd K mg "check_dividends" s_check_dividends := ⟨⟨_, _, fun_mk (st := s_check_dividends) l41 c41 k41, PySem.W.mg_of X G a41⟩⟩
  have C41 := ok_check_dividends (P := l.prog) (w := w) (base := base) B D41 C3
  have D42 : Fd K mg "check_sum" s_check_sum := ⟨⟨_, _, fun_mk (st := s_check_sum) l42 c42 k42, PySem.W.mg_of X G a42⟩⟩
  have C42 := ok_check_sum (P := l.prog) (w := w) (base := base) B D42 C3
  have D43 : Fd K mg "cover_all" s_cover_all := ⟨⟨_, _, fun_mk (st := s_cover_all) l43 c43 k43, PySem.W.mg_of X G a43⟩⟩
  have C43 := ok_cover_all (P := l.prog) (w := w) (base := base) B D43 C41 C42
  have D44 : Fd K mg "paid_out" s_paid_out := ⟨⟨_, _, fun_mk (st := s_paid_out) l44 c44 k44, PySem.W.mg_of X G a44⟩⟩
  have C44 := ok_paid_out (P := l.prog) (w := w) (base := base) B D44 C35 C37 C3
  have D45 : Fd K mg "left_over" s_left_over := ⟨⟨_, _, fun_mk (st := s_left_over) l45 c45 k45, PySem.W.mg_of X G a45⟩⟩
  have C45 := ok_left_over (P := l.prog) (w := w) (base := base) B D45 C44 C40
  have D46 : Fd K mg "dividends_by_runner" s_dividends_by_runner := ⟨⟨_, _, fun_mk (st := s_dividends_by_runner) l46 c46 k46, PySem.W.mg_of X G a46⟩⟩
  have C46 := ok_dividends_by_runner (P := l.prog) (w := w) (base := base) B D46 C35 C36 C40
  have D47 : Fd K mg "accept_cover" s_accept_cover := ⟨⟨_, _, fun_mk (st := s_accept_cover) l47 c47 k47, PySem.W.mg_of X G a47⟩⟩
  have C47 := ok_accept_cover (P := l.prog) (w := w) (base := base) B D47 C41 C42 C3
  have D48 : Fd K mg "impact" s_impact := ⟨⟨_, _, fun_mk (st := s_impact) l48 c48 k48, PySem.W.mg_of X G a48⟩⟩
  have C48 := ok_impact (P := l.prog) (w := w) (base := base) B D48 C35 C36 C39 C3 C38
  have D49 : Fd K mg "_law_legs" s_law_legs := ⟨⟨_, _, fun_mk (st := s_law_legs) l49 c49 k49, PySem.W.mg_of X G a49⟩⟩
  have C49 := ok_law_legs (P := l.prog) (w := w) (base := base) B D49 C1 C2 C10
  have D50 : Fd K mg "_law_factor" s_law_factor := ⟨⟨_, _, fun_mk (st := s_law_factor) l50 c50 k50, PySem.W.mg_of X G a50⟩⟩
  have C50 := ok_law_factor (P := l.prog) (w := w) (base := base) B D50 
  have D51 : Fd K mg "_law_products" s_law_products := ⟨⟨_, _, fun_mk (st := s_law_products) l51 c51 k51, PySem.W.mg_of X G a51⟩⟩
  have C51 := ok_law_products (P := l.prog) (w := w) (base := base) B D51 C11 C12
  have D52 : Fd K mg "_law_least" s_law_least := ⟨⟨_, _, fun_mk (st := s_law_least) l52 c52 k52, PySem.W.mg_of X G a52⟩⟩
  have C52 := ok_law_least (P := l.prog) (w := w) (base := base) B D52 C16 C51 C10 C13
  have D53 : Fd K mg "_law_slips_hold" s_law_slips_hold := ⟨⟨_, _, fun_mk (st := s_law_slips_hold) l53 c53 k53, PySem.W.mg_of X G a53⟩⟩
  have C53 := ok_law_slips_hold (P := l.prog) (w := w) (base := base) B D53 C11 C14 C1 C50 C52 C49 C12 C51 C10 C15 C13 C25 C24 C31 C33 C28 C30 C26 C29
  have D54 : Fd K mg "_law_pools_hold" s_law_pools_hold := ⟨⟨_, _, fun_mk (st := s_law_pools_hold) l54 c54 k54, PySem.W.mg_of X G a54⟩⟩
  have C54 := ok_law_pools_hold (P := l.prog) (w := w) (base := base) B D54 C1 C2 C10 C47 C43 C46 C48 C45 C44 C40
  exact ok_law (P := l.prog) (w := w) (base := base) B (fun_mk (st := s_law) l55 c55 k55) C54 C53 C0
end Nz
open PySem PySem.W PyProof.Rows
set_option maxHeartbeats 0 in
theorem PySem.Challenge.cw_nosurewin_k79_slips_and_pools_by_product_holds : PySem.Challenge.rw_nosurewin_k79_slips_and_pools_by_product.Holds := by
  w_on; o_law; k_head; (case hw => w_witness2)
  k_fill
  refine Nz.walk_ofG (l := PySem.Challenge.rw_nosurewin_k79_slips_and_pools_by_product) (n := 63) (k := 8) (x := "script") rfl (by decide) rfl ⟨rfl, by decide, by decide⟩ (fun w h Y => PySem.W.kIn_of Y) ?F
  case F =>
    intro w mg fa h KX G hmg
    refine' Nz.all_mk KX G hmg ?a0 ?l0 ?c0 ?k0 ?a1 ?l1 ?c1 ?k1 ?a2 ?l2 ?c2 ?k2 ?a3 ?l3 ?c3 ?k3 ?a4 ?l4 ?c4 ?k4 ?a5 ?l5 ?c5 ?k5 ?a6 ?l6 ?c6 ?k6 ?a7 ?l7 ?c7 ?k7 ?a8 ?l8 ?c8 ?k8 ?a9 ?l9 ?c9 ?k9 ?a10 ?l10 ?c10 ?k10 ?a11 ?l11 ?c11 ?k11 ?a12 ?l12 ?c12 ?k12 ?a13 ?l13 ?c13 ?k13 ?a14 ?l14 ?c14 ?k14 ?a15 ?l15 ?c15 ?k15 ?a16 ?l16 ?c16 ?k16 ?a17 ?l17 ?c17 ?k17 ?a18 ?l18 ?c18 ?k18 ?a19 ?l19 ?c19 ?k19 ?a20 ?l20 ?c20 ?k20 ?a21 ?l21 ?c21 ?k21 ?a22 ?l22 ?c22 ?k22 ?a23 ?l23 ?c23 ?k23 ?a24 ?l24 ?c24 ?k24 ?a25 ?l25 ?c25 ?k25 ?a26 ?l26 ?c26 ?k26 ?a27 ?l27 ?c27 ?k27 ?a28 ?l28 ?c28 ?k28 ?a29 ?l29 ?c29 ?k29 ?a30 ?l30 ?c30 ?k30 ?a31 ?l31 ?c31 ?k31 ?a32 ?l32 ?c32 ?k32 ?a33 ?l33 ?c33 ?k33 ?a34 ?l34 ?c34 ?k34 ?a35 ?l35 ?c35 ?k35 ?a36 ?l36 ?c36 ?k36 ?a37 ?l37 ?c37 ?k37 ?a38 ?l38 ?c38 ?k38 ?a39 ?l39 ?c39 ?k39 ?a40 ?l40 ?c40 ?k40 ?a41 ?l41 ?c41 ?k41 ?a42 ?l42 ?c42 ?k42 ?a43 ?l43 ?c43 ?k43 ?a44 ?l44 ?c44 ?k44 ?a45 ?l45 ?c45 ?k45 ?a46 ?l46 ?c46 ?k46 ?a47 ?l47 ?c47 ?k47 ?a48 ?l48 ?c48 ?k48 ?a49 ?l49 ?c49 ?k49 ?a50 ?l50 ?c50 ?k50 ?a51 ?l51 ?c51 ?k51 ?a52 ?l52 ?c52 ?k52 ?a53 ?l53 ?c53 ?k53 ?a54 ?l54 ?c54 ?k54 ?a55 ?l55 ?c55 ?k55 ?z_abs ?z_all ?z_bool ?z_enumerate ?z_int ?z_isinstance ?z_len ?z_list ?z_max ?z_range ?z_repr ?z_sorted ?z_str ?z_sum ?z_tuple ?z_zip ?q_MAX_AMOUNT ?q_MAX_LEGS ?q_MAX_PART ?q_MAX_RUNNERS ?q_WORDS ?m_WORDS
    (case a0 => k_is)
    (case l0 => k_is)
    (case c0 => k_is)
    (case k0 => k_is)
    (case a1 => k_is)
    (case l1 => k_is)
    (case c1 => k_is)
    (case k1 => k_is)
    (case a2 => k_is)
    (case l2 => k_is)
    (case c2 => k_is)
    (case k2 => k_is)
    (case a3 => k_is)
    (case l3 => k_is)
    (case c3 => k_is)
    (case k3 => k_is)
    (case a4 => k_is)
    (case l4 => k_is)
    (case c4 => k_is)
    (case k4 => k_is)
    (case a5 => k_is)
    (case l5 => k_is)
    (case c5 => k_is)
    (case k5 => k_is)
    (case a6 => k_is)
    (case l6 => k_is)
    (case c6 => k_is)
    (case k6 => k_is)
    (case a7 => k_is)
    (case l7 => k_is)
    (case c7 => k_is)
    (case k7 => k_is)
    (case a8 => k_is)
    (case l8 => k_is)
    (case c8 => k_is)
    (case k8 => k_is)
    (case a9 => k_is)
    (case l9 => k_is)
    (case c9 => k_is)
    (case k9 => k_is)
    (case a10 => k_is)
    (case l10 => k_is)
    (case c10 => k_is)
    (case k10 => k_is)
    (case a11 => k_is)
    (case l11 => k_is)
    (case c11 => k_is)
    (case k11 => k_is)
    (case a12 => k_is)
    (case l12 => k_is)
    (case c12 => k_is)
    (case k12 => k_is)
    (case a13 => k_is)
    (case l13 => k_is)
    (case c13 => k_is)
    (case k13 => k_is)
    (case a14 => k_is)
    (case l14 => k_is)
    (case c14 => k_is)
    (case k14 => k_is)
    (case a15 => k_is)
    (case l15 => k_is)
    (case c15 => k_is)
    (case k15 => k_is)
    (case a16 => k_is)
    (case l16 => k_is)
    (case c16 => k_is)
    (case k16 => k_is)
    (case a17 => k_is)
    (case l17 => k_is)
    (case c17 => k_is)
    (case k17 => k_is)
    (case a18 => k_is)
    (case l18 => k_is)
    (case c18 => k_is)
    (case k18 => k_is)
    (case a19 => k_is)
    (case l19 => k_is)
    (case c19 => k_is)
    (case k19 => k_is)
    (case a20 => k_is)
    (case l20 => k_is)
    (case c20 => k_is)
    (case k20 => k_is)
    (case a21 => k_is)
    (case l21 => k_is)
    (case c21 => k_is)
    (case k21 => k_is)
    (case a22 => k_is)
    (case l22 => k_is)
    (case c22 => k_is)
    (case k22 => k_is)
    (case a23 => k_is)
    (case l23 => k_is)
    (case c23 => k_is)
    (case k23 => k_is)
    (case a24 => k_is)
    (case l24 => k_is)
    (case c24 => k_is)
    (case k24 => k_is)
    (case a25 => k_is)
    (case l25 => k_is)
    (case c25 => k_is)
    (case k25 => k_is)
    (case a26 => k_is)
    (case l26 => k_is)
    (case c26 => k_is)
    (case k26 => k_is)
    (case a27 => k_is)
    (case l27 => k_is)
    (case c27 => k_is)
    (case k27 => k_is)
    (case a28 => k_is)
    (case l28 => k_is)
    (case c28 => k_is)
    (case k28 => k_is)
    (case a29 => k_is)
    (case l29 => k_is)
    (case c29 => k_is)
    (case k29 => k_is)
    (case a30 => k_is)
    (case l30 => k_is)
    (case c30 => k_is)
    (case k30 => k_is)
    (case a31 => k_is)
    (case l31 => k_is)
    (case c31 => k_is)
    (case k31 => k_is)
    (case a32 => k_is)
    (case l32 => k_is)
    (case c32 => k_is)
    (case k32 => k_is)
    (case a33 => k_is)
    (case l33 => k_is)
    (case c33 => k_is)
    (case k33 => k_is)
    (case a34 => k_is)
    (case l34 => k_is)
    (case c34 => k_is)
    (case k34 => k_is)
    (case a35 => k_is)
    (case l35 => k_is)
    (case c35 => k_is)
    (case k35 => k_is)
    (case a36 => k_is)
    (case l36 => k_is)
    (case c36 => k_is)
    (case k36 => k_is)
    (case a37 => k_is)
    (case l37 => k_is)
    (case c37 => k_is)
    (case k37 => k_is)
    (case a38 => k_is)
    (case l38 => k_is)
    (case c38 => k_is)
    (case k38 => k_is)
    (case a39 => k_is)
    (case l39 => k_is)
    (case c39 => k_is)
    (case k39 => k_is)
    (case a40 => k_is)
    (case l40 => k_is)
    (case c40 => k_is)
    (case k40 => k_is)
    (case a41 => k_is)
    (case l41 => k_is)
    (case c41 => k_is)
    (case k41 => k_is)
    (case a42 => k_is)
    (case l42 => k_is)
    (case c42 => k_is)
    (case k42 => k_is)
    (case a43 => k_is)
    (case l43 => k_is)
    (case c43 => k_is)
    (case k43 => k_is)
    (case a44 => k_is)
    (case l44 => k_is)
    (case c44 => k_is)
    (case k44 => k_is)
    (case a45 => k_is)
    (case l45 => k_is)
    (case c45 => k_is)
    (case k45 => k_is)
    (case a46 => k_is)
    (case l46 => k_is)
    (case c46 => k_is)
    (case k46 => k_is)
    (case a47 => k_is)
    (case l47 => k_is)
    (case c47 => k_is)
    (case k47 => k_is)
    (case a48 => k_is)
    (case l48 => k_is)
    (case c48 => k_is)
    (case k48 => k_is)
    (case a49 => k_is)
    (case l49 => k_is)
    (case c49 => k_is)
    (case k49 => k_is)
    (case a50 => k_is)
    (case l50 => k_is)
    (case c50 => k_is)
    (case k50 => k_is)
    (case a51 => k_is)
    (case l51 => k_is)
    (case c51 => k_is)
    (case k51 => k_is)
    (case a52 => k_is)
    (case l52 => k_is)
    (case c52 => k_is)
    (case k52 => k_is)
    (case a53 => k_is)
    (case l53 => k_is)
    (case c53 => k_is)
    (case k53 => k_is)
    (case a54 => k_is)
    (case l54 => k_is)
    (case c54 => k_is)
    (case k54 => k_is)
    (case a55 => k_is)
    (case l55 => k_is)
    (case c55 => k_is)
    (case k55 => k_is)
    (case z_abs => k_is)
    (case z_all => k_is)
    (case z_bool => k_is)
    (case z_enumerate => k_is)
    (case z_int => k_is)
    (case z_isinstance => k_is)
    (case z_len => k_is)
    (case z_list => k_is)
    (case z_max => k_is)
    (case z_range => k_is)
    (case z_repr => k_is)
    (case z_sorted => k_is)
    (case z_str => k_is)
    (case z_sum => k_is)
    (case z_tuple => k_is)
    (case z_zip => k_is)
    (case q_MAX_AMOUNT => k_is)
    (case q_MAX_LEGS => k_is)
    (case q_MAX_PART => k_is)
    (case q_MAX_RUNNERS => k_is)
    (case q_WORDS => k_is)
    (case m_WORDS => k_is)

