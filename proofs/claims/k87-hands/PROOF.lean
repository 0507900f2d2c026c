import PyProof.Rows.All
import HandS.ForMost
import HandS.Wide
import HandS.Zip
import HandS.Style
import HandS.IsInst
import HandS.TupAny
import HandS.RaiseMore
import KE.KRevSl
import PyProof.ReprRoads
import PyProof.WalksMore
import PyProof.SumWalkG
import HandS.SetFor
import PyProof.ReprLen
import PyProof.ReprText
import PyProof.P3Eq
import PyProof.Draws
import PyProof.EnumMake
import HandS.Strs
import HandS.SortInts
import HandS.TupMul
import HandS.Flow
import KE.SortData
import KE.DataCmp
import HandS.Deep
import HandS.NoneIn
import HandS.DictComp
import HandS.WordsDict
import KE.DataFind
import KE.DataEq
import HandS.Ends
import PySem.Challenge.RW_nosurewin_k87_hands_counted_by_ranks_and
set_option Elab.async false
set_option linter.all false
set_option maxRecDepth 100000
set_option maxHeartbeats 4000000
namespace Nz
open PySem PySem.Spec PyProof.Rows L2

/-! ### heaps: growth, hiding -/
def Ex (H H' : Hp) : Prop := ∀ a o, H a = some o → H' a = some o
theorem Ex.refl (H : Hp) : Ex H H := fun _ _ h => h
theorem Ex.trans {H H1 H2 : Hp} (a : Ex H H1) (b : Ex H1 H2) : Ex H H2 := fun x o h => b x o (a x o h)
theorem Ex.new {H : Hp} {p : Addr} {o : HO} (h : H p = none) : Ex H (upd H p o) := fun a u e => by
  rw [upd_ne (ne_of_none e h)]; exact e
def hide (S : List Addr) (H : Hp) : Hp := fun a => if a ∈ S then none else H a
theorem hide_some {S : List Addr} {H : Hp} {a : Addr} {o : HO} (h : hide S H a = some o) : a ∉ S ∧ H a = some o := by
  unfold hide at h
  by_cases e : a ∈ S
  · rw [if_pos e] at h; cases h
  · rw [if_neg e] at h; exact ⟨e, h⟩
theorem hide_of {S : List Addr} {H : Hp} {a : Addr} {o : HO} (n : a ∉ S) (h : H a = some o) : hide S H a = some o := by
  unfold hide; rw [if_neg n]; exact h
theorem hide_ex (S : List Addr) (H : Hp) : Ex (hide S H) H := fun _ _ h => (hide_some h).2
/-- less hidden, more there -/
theorem hide_mono {S S' : List Addr} {H H' : Hp} (h : ∀ a o, a ∉ S → H a = some o → a ∉ S' ∧ H' a = some o) : Ex (hide S H) (hide S' H') := fun a o e =>
  have ⟨n, e⟩ := hide_some e
  have ⟨n', e'⟩ := h a o n e
  hide_of n' e'

/-- a tuple with no dict of its own -/
def Pt (K : PySem.W.Frag) (H : Hp) (a : Addr) (xs : List V) : Prop :=
  (∃ o, H a = some (.frz o (.tup xs)) ∧ o.dict = none) ∨
    ∃ (o : Obj) (its : Array Value) (n : Nat), K.lookup a = some o ∧ o.cls = .type "tuple" ∧ o.dict = none ∧ o.data = .seq its n ∧ its.size ≤ sizeLine ∧ Vals xs its.toList
theorem Pt.sq {K : PySem.W.Frag} {H : Hp} {a : Addr} {xs : List V} (h : Pt K H a xs) : SqT K H a xs := by
  rcases h with ⟨o, h, _⟩ | ⟨o, its, n, h1, h2, _, h4, h5, h6⟩
  · exact .inl (.inr ⟨o, h⟩)
  · exact .inr ⟨o, its, n, h1, h2, h4, h5, h6⟩
/-! data at any depth; tuples have no dict of their own -/
mutual
inductive Dz (K : PySem.W.Frag) (H : Hp) : V → PyData → Prop
  | non : Dz K H .non .none
  | bl (b : Bool) : Dz K H (.bl b) (.bool b)
  | int (i : Int) : Dz K H (.int i) (.int i)
  | str (x : Str) : Dz K H (.str x) (.str x)
  | lst {a : Addr} {xs : List V} {ds : List PyData} : SqL K H a xs → DzAll K H xs ds → Dz K H (.ref a) (.list ds)
  | tup {a : Addr} {xs : List V} {ds : List PyData} : Pt K H a xs → DzAll K H xs ds → Dz K H (.ref a) (.tuple ds)
inductive DzAll (K : PySem.W.Frag) (H : Hp) : List V → List PyData → Prop
  | nil : DzAll K H [] []
  | cons {v : V} {vs : List V} {d : PyData} {ds : List PyData} : Dz K H v d → DzAll K H vs ds → DzAll K H (v :: vs) (d :: ds)
end
section
variable {K : PySem.W.Frag} {H H' : Hp}
mutual
theorem dz_dp : ∀ (d : PyData) (v : V), Dz K H v d → Dp K H v d
  | .none, _, h => by cases h; exact .non
  | .bool b, _, h => by cases h; exact .bl b
  | .int i, _, h => by cases h; exact .int i
  | .str x, _, h => by cases h; exact .str x
  | .list ds, _, h => by
    cases h with
    | lst hs ha => exact .lst hs (dza_dpa ds _ ha)
  | .tuple ds, _, h => by
    cases h with
    | tup hs ha => exact .tup hs.sq (dza_dpa ds _ ha)
  | .dict _, _, h => by cases h
theorem dza_dpa : ∀ (ds : List PyData) (vs : List V), DzAll K H vs ds → DpAll K H vs ds
  | [], _, h => by cases h; exact .nil
  | d :: ds, _, h => by
    cases h with
    | cons h1 h2 => exact .cons (dz_dp d _ h1) (dza_dpa ds _ h2)
end
end

section
variable {K : PySem.W.Frag} {H H' : Hp}
theorem ex_rd {a : Addr} {u : HO} (e : Ex H H') (h : Rd H a u) : Rd H' a u := by
  rcases h with h | ⟨o, h⟩
  · exact Or.inl (e a _ h)
  · exact Or.inr ⟨o, e a _ h⟩
theorem ex_l {a : Addr} {xs : List V} (e : Ex H H') (h : SqL K H a xs) : SqL K H' a xs := by
  rcases h with h | h
  · exact Or.inl (ex_rd e h)
  · exact Or.inr h
theorem ex_t {a : Addr} {xs : List V} (e : Ex H H') (h : SqT K H a xs) : SqT K H' a xs := by
  rcases h with h | h
  · exact Or.inl (ex_rd e h)
  · exact Or.inr h
theorem ex_p {a : Addr} {xs : List V} (e : Ex H H') (h : Pt K H a xs) : Pt K H' a xs := by
  rcases h with ⟨o, h, z⟩ | h
  · exact .inl ⟨o, e a _ h, z⟩
  · exact .inr h
theorem sq_of {a : Addr} {xs : List V} (h : H a = some (.lst xs)) : SqL K H a xs := Or.inl (Or.inl h)
theorem pt_of {a : Addr} {o : Obj} {xs : List V} (h : H a = some (.frz o (.tup xs))) (z : o.dict = none) : Pt K H a xs := .inl ⟨o, h, z⟩
mutual
theorem dp_mono (e : Ex H H') : ∀ (d : PyData) (v : V), Dz K H v d → Dz K H' v d
  | .none, _, h => by cases h; exact .non
  | .bool b, _, h => by cases h; exact .bl b
  | .int i, _, h => by cases h; exact .int i
  | .str x, _, h => by cases h; exact .str x
  | .list ds, _, h => by
    cases h with
    | lst hs ha => exact .lst (ex_l e hs) (dpa_mono e ds _ ha)
  | .tuple ds, _, h => by
    cases h with
    | tup hs ha => exact .tup (ex_p e hs) (dpa_mono e ds _ ha)
  | .dict _, _, h => by cases h
theorem dpa_mono (e : Ex H H') : ∀ (ds : List PyData) (vs : List V), DzAll K H vs ds → DzAll K H' vs ds
  | [], _, h => by cases h; exact .nil
  | d :: ds, _, h => by
    cases h with
    | cons h1 h2 => exact .cons (dp_mono e d _ h1) (dpa_mono e ds _ h2)
end
theorem dpm (e : Ex H H') {d : PyData} {v : V} (h : Dz K H v d) : Dz K H' v d := dp_mono e d v h
theorem dpam (e : Ex H H') {ds : List PyData} {vs : List V} (h : DzAll K H vs ds) : DzAll K H' vs ds := dpa_mono e ds vs h
theorem dp_int {v : V} {i : Int} (h : Dz K H v (.int i)) : v = .int i := by cases h; rfl
theorem dp_bl {v : V} {b : Bool} (h : Dz K H v (.bool b)) : v = .bl b := by cases h; rfl
theorem dp_str {v : V} {x : Str} (h : Dz K H v (.str x)) : v = .str x := by cases h; rfl
theorem dp_non {v : V} (h : Dz K H v .none) : v = .non := by cases h; rfl
theorem dp_tup {v : V} {ds : List PyData} (h : Dz K H v (.tuple ds)) : ∃ a xs, v = .ref a ∧ Pt K H a xs ∧ DzAll K H xs ds := by
  cases h with
  | tup hs ha => exact ⟨_, _, rfl, hs, ha⟩
theorem dp_lst {v : V} {ds : List PyData} (h : Dz K H v (.list ds)) : ∃ a xs, v = .ref a ∧ SqL K H a xs ∧ DzAll K H xs ds := by
  cases h with
  | lst hs ha => exact ⟨_, _, rfl, hs, ha⟩
theorem dpa_length : ∀ {ds : List PyData} {xs : List V}, DzAll K H xs ds → xs.length = ds.length
  | [], _, h => by cases h; rfl
  | _ :: _, _, h => by
    cases h with
    | cons _ h2 => rw [List.length_cons, List.length_cons, dpa_length h2]
theorem dpa_get : ∀ {ds : List PyData} {xs : List V} {i : Nat} {d : PyData}, DzAll K H xs ds → ds[i]? = some d → ∃ v, xs[i]? = some v ∧ Dz K H v d
  | [], _, _, _, h, e => by simp at e
  | d :: ds, _, 0, _, h, e => by
    cases h with
    | cons h1 h2 =>
      have e' := Option.some.inj e
      subst e'
      exact ⟨_, rfl, h1⟩
  | d :: ds, _, i + 1, d', h, e => by
    cases h with
    | cons h1 h2 =>
      obtain ⟨v, a, b⟩ := dpa_get (i := i) (d := d') h2 (by simpa using e)
      exact ⟨v, by simpa using a, b⟩
theorem dpa_getV : ∀ {ds : List PyData} {xs : List V} {i : Nat} {v : V}, DzAll K H xs ds → xs[i]? = some v → ∃ d, ds[i]? = some d ∧ Dz K H v d := fun {ds xs i v} h e => by
  have hl := dpa_length h
  have hi : i < xs.length := (List.getElem?_eq_some_iff.mp e).1
  have hi' : i < ds.length := by omega
  have ⟨w, a, b⟩ := dpa_get h (List.getElem?_eq_getElem hi')
  rw [a] at e; cases e
  exact ⟨_, List.getElem?_eq_getElem hi', b⟩
theorem dpa_append : ∀ {ds es : List PyData} {xs ys : List V}, DzAll K H xs ds → DzAll K H ys es → DzAll K H (xs ++ ys) (ds ++ es)
  | [], _, _, _, h, h2 => by cases h; exact h2
  | _ :: _, _, _, _, h, h2 => by
    cases h with
    | cons a b => exact .cons a (dpa_append b h2)
theorem dpa_set : ∀ {ds : List PyData} {xs : List V} {v : V} {d : PyData} (i : Nat), DzAll K H xs ds → Dz K H v d → DzAll K H (xs.set i v) (ds.set i d)
  | [], _, _, _, _, h, _ => by cases h; exact .nil
  | _ :: _, _, _, _, 0, h, h2 => by
    cases h with
    | cons a b => exact .cons h2 b
  | _ :: _, _, _, _, i + 1, h, h2 => by
    cases h with
    | cons a b => exact .cons a (dpa_set i b h2)
theorem dpa_take : ∀ {ds : List PyData} {xs : List V} (n : Nat), DzAll K H xs ds → DzAll K H (xs.take n) (ds.take n)
  | _, _, 0, _ => by simp; exact .nil
  | [], _, _ + 1, h => by cases h; exact .nil
  | _ :: _, _, n + 1, h => by
    cases h with
    | cons a b => exact .cons a (dpa_take n b)
theorem dpa_drop : ∀ {ds : List PyData} {xs : List V} (n : Nat), DzAll K H xs ds → DzAll K H (xs.drop n) (ds.drop n)
  | _, _, 0, h => h
  | [], _, _ + 1, h => by cases h; exact .nil
  | _ :: _, _, n + 1, h => by
    cases h with
    | cons a b => exact dpa_drop n b
theorem dpa_rev {ds : List PyData} {xs : List V} (h : DzAll K H xs ds) : DzAll K H xs.reverse ds.reverse := by
  induction ds generalizing xs with
  | nil => cases h; exact .nil
  | cons d ds ih =>
    cases h with
    | cons a b =>
      rw [List.reverse_cons, List.reverse_cons]
      exact dpa_append (ih b) (.cons a .nil)
theorem dpa_rep {ds : List PyData} {xs : List V} (h : DzAll K H xs ds) : ∀ k : Nat, DzAll K H (List.replicate k xs).flatten (List.replicate k ds).flatten
  | 0 => by simp; exact .nil
  | k + 1 => by
    rw [List.replicate_succ, List.replicate_succ, List.flatten_cons, List.flatten_cons]
    exact dpa_append h (dpa_rep h k)
theorem dpaInts : ∀ {ns : List Int} {xs : List V}, DzAll K H xs (ns.map .int) → xs = ns.map V.int
  | [], _, h => by cases h; rfl
  | n :: ns, _, h => by
    cases h with
    | cons a b => rw [dp_int a, dpaInts b]; rfl
theorem dpa_ints : ∀ (ns : List Int), DzAll K H (ns.map V.int) (ns.map .int)
  | [] => .nil
  | n :: ns => .cons (.int n) (dpa_ints ns)
theorem dpaBools : ∀ {ns : List Bool} {xs : List V}, DzAll K H xs (ns.map .bool) → xs = ns.map V.bl
  | [], _, h => by cases h; rfl
  | n :: ns, _, h => by
    cases h with
    | cons a b => rw [dp_bl a, dpaBools b]; rfl
end

/-! ### what a frame holds -/
inductive MO where
  | lst (ds : List PyData)
  | dK (kvs : List (Key × PyData))
  | dT (kvs : List (List Key × PyData))
  /-- a list, of which P is known -/
  | any (P : List PyData → Prop)
inductive Sl where
  /-- nothing is known -/
  | no
  /-- data, never changed -/
  | da (d : PyData)
  /-- a thing that may change: of the frame's own (l), or borrowed -/
  | mu (l : Bool) (a : Addr) (o : MO)
  /-- just this value -/
  | vl (v : V)
structure Cz where
  K : PySem.W.Frag
  /-- the heap at the entry -/
  B : Hp
  /-- what is borrowed and may be changed -/
  M : List Addr
  /-- what the caller hides -/
  S0 : List Addr
def mutA : Sl → Option Addr
  | .mu _ a _ => some a
  | _ => none
def muts (ρ : List Sl) : List Addr := ρ.filterMap mutA
abbrev hid (c : Cz) (ρ : List Sl) : List Addr := c.S0 ++ muts ρ
theorem mem_muts {ρ : List Sl} {a : Addr} : a ∈ muts ρ ↔ ∃ (i : Nat) (l : Bool) (o : MO), ρ[i]? = some (Sl.mu l a o) := by
  unfold muts
  rw [List.mem_filterMap]
  constructor
  · rintro ⟨s, hs, e⟩
    obtain ⟨i, hi⟩ := List.mem_iff_getElem?.mp hs
    cases s <;> simp [mutA] at e
    subst e
    exact ⟨i, _, _, hi⟩
  · rintro ⟨i, l, o, h⟩
    exact ⟨_, List.mem_of_getElem? h, rfl⟩
def KVd {κ : Type} (K : PySem.W.Frag) (H : Hp) : List (κ × V) → List (κ × PyData) → Prop := Paired fun p q => p.1 = q.1 ∧ Dz K H p.2 q.2
def MoOk (K : PySem.W.Frag) (S : List Addr) (H : Hp) (a : Addr) : MO → Prop
  | .lst ds => ∃ xs, H a = some (.lst xs) ∧ DzAll K (hide S H) xs ds
  | .dK kvs => ∃ xs, H a = some (.dK xs) ∧ KVd K (hide S H) xs kvs
  | .dT kvs => ∃ xs, H a = some (.dT xs) ∧ KVd K (hide S H) xs kvs
  | .any P => ∃ xs, H a = some (.lst xs) ∧ ∃ ds, P ds ∧ DzAll K (hide S H) xs ds
def SlOk (c : Cz) (S : List Addr) (H : Hp) (x : Option (Option V)) : Sl → Prop
  | .no => True
  | .da d => ∃ v, x = some (some v) ∧ Dz c.K (hide S H) v d
  | .mu l a o => x = some (some (.ref a)) ∧ (if l = true then c.B a = none else a ∈ c.M) ∧ MoOk c.K S H a o
  | .vl v => x = some (some v)
theorem MoOk.there {K : PySem.W.Frag} {S : List Addr} {H : Hp} {a : Addr} {o : MO} (h : MoOk K S H a o) : ∃ u, H a = some u := by
  cases o <;> exact ⟨_, h.choose_spec.1⟩
theorem KVd.mono {κ : Type} {K : PySem.W.Frag} {H H' : Hp} {xs : List (κ × V)} {kvs : List (κ × PyData)} (e : Ex H H') (h : KVd K H xs kvs) : KVd K H' xs kvs :=
  Paired.mapP h fun _ _ z => ⟨z.1, dpm e z.2⟩
theorem MoOk.mono {K : PySem.W.Frag} {S S' : List Addr} {H H' : Hp} {a : Addr} {o : MO} (e : Ex (hide S H) (hide S' H')) (he : H' a = H a) (h : MoOk K S H a o) : MoOk K S' H' a o := by
  cases o with
  | lst ds => obtain ⟨xs, h1, h2⟩ := h; exact ⟨xs, he.trans h1, dpam e h2⟩
  | dK ds => obtain ⟨xs, h1, h2⟩ := h; exact ⟨xs, he.trans h1, h2.mono e⟩
  | dT ds => obtain ⟨xs, h1, h2⟩ := h; exact ⟨xs, he.trans h1, h2.mono e⟩
  | any P => obtain ⟨xs, h1, ds, h3, h2⟩ := h; exact ⟨xs, he.trans h1, ds, h3, dpam e h2⟩

abbrev Tm := List (V × PyData)
structure Wd (c : Cz) (T : Tm) (H : Hp) (σ : L2.St) (ρ : List Sl) : Prop where
  len : σ.length = ρ.length
  keep : ∀ a o, a ∉ c.M → c.B a = some o → H a = some o
  sub : ∀ a ∈ c.M, a ∈ c.S0
  dom : ∀ a ∈ c.S0, ∃ o, H a = some o
  tmp : ∀ p ∈ T, Dz c.K (hide (hid c ρ) H) p.1 p.2
  inj : ∀ (i j : Nat) (l m : Bool) (a : Addr) (o u : MO), ρ[i]? = some (Sl.mu l a o) → ρ[j]? = some (Sl.mu m a u) → i = j
  ap : ∀ (i : Nat) (a : Addr) (o : MO), ρ[i]? = some (Sl.mu true a o) → a ∉ c.S0
  ok : ∀ (i : Nat) (s : Sl), ρ[i]? = some s → SlOk c (hid c ρ) H σ[i]? s

section
variable {c : Cz} {T : Tm} {H H' : Hp} {σ σ' : L2.St} {ρ ρ' : List Sl}
theorem Wd.there (W : Wd c T H σ ρ) {a : Addr} (h : a ∈ hid c ρ) : ∃ o, H a = some o := by
  rcases List.mem_append.mp h with h | h
  · exact W.dom a h
  · obtain ⟨i, l, o, e⟩ := mem_muts.mp h
    exact (W.ok i _ e).2.2.there
theorem Wd.fresh (W : Wd c T H σ ρ) {p : Addr} (h : H p = none) : p ∉ hid c ρ := fun m => by
  obtain ⟨o, e⟩ := W.there m
  rw [h] at e; cases e
theorem Wd.freshB (W : Wd c T H σ ρ) {p : Addr} (h : H p = none) : c.B p = none := by
  cases e : c.B p with
  | none => rfl
  | some o =>
    have n : p ∉ c.M := fun m => W.fresh h (List.mem_append_left _ (W.sub p m))
    have := W.keep p o n e
    rw [h] at this; cases this
/-- the heap has grown -/
theorem Wd.grow (W : Wd c T H σ ρ) (e : Ex H H') : Wd c T H' σ ρ := by
  have e2 : Ex (hide (hid c ρ) H) (hide (hid c ρ) H') := hide_mono fun a o n h => ⟨n, e a o h⟩
  refine ⟨W.len, fun a o n h => e _ _ (W.keep a o n h), W.sub, fun a h => ?_, fun p hp => dpm e2 (W.tmp p hp), W.inj, W.ap, fun i s h => ?_⟩
  · obtain ⟨o, h1⟩ := W.dom a h
    exact ⟨o, e _ _ h1⟩
  · have h1 := W.ok i s h
    cases s with
    | no => exact h1
    | da d => obtain ⟨v, a, b⟩ := h1; exact ⟨v, a, dpm e2 b⟩
    | mu l a o =>
      obtain ⟨x, y, z⟩ := h1
      obtain ⟨u, hu⟩ := z.there
      exact ⟨x, y, z.mono e2 (by rw [hu, e _ _ hu])⟩
    | vl v => exact h1
theorem Wd.push (W : Wd c T H σ ρ) {v : V} {d : PyData} (h : Dz c.K (hide (hid c ρ) H) v d) : Wd c ((v, d) :: T) H σ ρ :=
  ⟨W.len, W.keep, W.sub, W.dom, fun p hp => by
    rcases List.mem_cons.mp hp with e | e
    · subst e; exact h
    · exact W.tmp p e, W.inj, W.ap, W.ok⟩
theorem Wd.tmps {T' : Tm} (W : Wd c T H σ ρ) (h : ∀ p ∈ T', p ∈ T) : Wd c T' H σ ρ := ⟨W.len, W.keep, W.sub, W.dom, fun p hp => W.tmp p (h p hp), W.inj, W.ap, W.ok⟩
theorem Wd.pop {p : V × PyData} (W : Wd c (p :: T) H σ ρ) : Wd c T H σ ρ := W.tmps fun _ h => List.mem_cons_of_mem _ h
theorem Wd.top {v : V} {d : PyData} (W : Wd c ((v, d) :: T) H σ ρ) : Dz c.K H v d := dpm (hide_ex _ _) (W.tmp (v, d) (List.mem_cons_self ..))
theorem Wd.at {v : V} {d : PyData} (W : Wd c T H σ ρ) (h : (v, d) ∈ T) : Dz c.K H v d := dpm (hide_ex _ _) (W.tmp _ h)
theorem slOk_mono {S S' : List Addr} {x : Option (Option V)} {s : Sl} (e : Ex (hide S H) (hide S' H')) (he : ∀ a, mutA s = some a → H' a = H a) (h : SlOk c S H x s) : SlOk c S' H' x s := by
  cases s with
  | no => exact h
  | da d => obtain ⟨v, a, b⟩ := h; exact ⟨v, a, dpm e b⟩
  | mu l a o => obtain ⟨x, y, z⟩ := h; exact ⟨x, y, z.mono e (he a rfl)⟩
  | vl v => exact h
theorem get_set {α : Type} {l : List α} {i j : Nat} {x y : α} (h : (l.set i x)[j]? = some y) : (i = j ∧ i < l.length ∧ y = x) ∨ (i ≠ j ∧ l[j]? = some y) := by
  by_cases q : i = j
  · subst q
    have hi := (List.getElem?_eq_some_iff.mp h).1
    rw [List.length_set] at hi
    rw [List.getElem?_set_self hi] at h
    cases h
    exact .inl ⟨rfl, hi, rfl⟩
  · rw [List.getElem?_set_ne q] at h
    exact .inr ⟨q, h⟩
/-- a slot is stored, nothing that may change -/
theorem Wd.setN (W : Wd c T H σ ρ) (i : Nat) (x : Option V) (s : Sl) (hs : mutA s = none) (h : SlOk c (hid c ρ) H (some x) s) : Wd c T H (σ.set i x) (ρ.set i s) := by
  have r : ∀ {j : Nat} {l : Bool} {a : Addr} {o : MO}, (ρ.set i s)[j]? = some (.mu l a o) → i ≠ j ∧ ρ[j]? = some (.mu l a o) := fun {j l a o} h => by
    rcases get_set h with ⟨_, _, e⟩ | e
    · rw [← e] at hs; cases hs
    · exact e
  have sub : ∀ a, a ∈ hid c (ρ.set i s) → a ∈ hid c ρ := fun a m => by
    rcases List.mem_append.mp m with m | m
    · exact List.mem_append_left _ m
    · obtain ⟨j, l, o, e⟩ := mem_muts.mp m
      exact List.mem_append_right _ (mem_muts.mpr ⟨j, l, o, (r e).2⟩)
  have e2 : Ex (hide (hid c ρ) H) (hide (hid c (ρ.set i s)) H) := hide_mono fun a o n h => ⟨fun m => n (sub a m), h⟩
  refine ⟨by rw [List.length_set, List.length_set]; exact W.len, W.keep, W.sub, W.dom, fun p hp => dpm e2 (W.tmp p hp), fun j k l m a o u h1 h2 => W.inj j k l m a o u (r h1).2 (r h2).2, fun j a o h1 => W.ap j a o (r h1).2, fun j z hz => ?_⟩
  rcases get_set hz with ⟨q, hi, e⟩ | ⟨q, e⟩
  · subst q; subst e
    rw [List.getElem?_set_self (by rw [W.len]; exact hi)]
    exact slOk_mono e2 (fun _ _ => rfl) h
  · rw [List.getElem?_set_ne q]
    exact slOk_mono e2 (fun _ _ => rfl) (W.ok j z e)
theorem Wd.setD {v : V} {d : PyData} (W : Wd c T H σ ρ) (i : Nat) (h : Dz c.K (hide (hid c ρ) H) v d) : Wd c T H (σ.set i (some v)) (ρ.set i (.da d)) :=
  W.setN i (some v) (.da d) rfl ⟨v, rfl, h⟩
/-- what stands at p is hidden too -/
abbrev Cz.hidden (c : Cz) (p : Addr) : Cz := { c with S0 := p :: c.S0 }
theorem Wd.unhide {p : Addr} (W : Wd (c.hidden p) T H σ ρ) (hs : ∀ a ∈ c.M, a ∈ c.S0) : Wd c T H σ ρ := by
  have e2 : Ex (hide (hid (c.hidden p) ρ) H) (hide (hid c ρ) H) := hide_mono fun a o n h => ⟨fun m => n (List.mem_cons_of_mem _ m), h⟩
  exact ⟨W.len, W.keep, hs, fun a h => W.dom a (List.mem_cons_of_mem _ h), fun q hq => dpm e2 (W.tmp q hq), W.inj, fun i a o h m => W.ap i a o h (List.mem_cons_of_mem _ m), fun i s h => by
    have := slOk_mono (H' := H) e2 (fun _ _ => rfl) (W.ok i s h)
    cases s <;> exact this⟩
/-- a fresh thing is hidden -/
theorem Wd.hideNew {p : Addr} {o : HO} (W : Wd c T H σ ρ) (h : H p = none) : Wd (c.hidden p) T (upd H p o) σ ρ := by
  have W2 := W.grow (Ex.new (o := o) h)
  have n := W.fresh h
  have e2 : Ex (hide (hid c ρ) H) (hide (hid (c.hidden p) ρ) (upd H p o)) := hide_mono fun a u m e => ⟨fun q => by
    rcases List.mem_cons.mp q with q | q
    · rw [q, h] at e; cases e
    · exact m q, Ex.new h a u e⟩
  refine ⟨W.len, W2.keep, fun a m => List.mem_cons_of_mem _ (W.sub a m), fun a m => ?_, fun q hq => dpm e2 (W.tmp q hq), W.inj, fun i a u e m => ?_, fun i s m => ?_⟩
  · rcases List.mem_cons.mp m with m | m
    · rw [m]; exact ⟨o, upd_same⟩
    · exact W2.dom a m
  · rcases List.mem_cons.mp m with m | m
    · obtain ⟨z, hz⟩ := (W.ok i _ e).2.2.there
      rw [m, h] at hz; cases hz
    · exact W.ap i a u e m
  · have := slOk_mono (c := c) (H' := upd H p o) e2 (fun a e => by
      cases s with
      | mu l b o' =>
        cases e
        obtain ⟨u, hu⟩ := (W.ok i _ m).2.2.there
        exact upd_ne (ne_of_none hu h)
      | _ => cases e) (W.ok i s m)
    cases s <;> exact this
theorem Wd.notin {p : Addr} (W : Wd (c.hidden p) T H σ ρ) (h0 : p ∉ c.S0) (hs : ∀ a ∈ c.M, a ∈ c.S0) : p ∉ hid c ρ := fun m => by
  rcases List.mem_append.mp m with m | m
  · exact h0 m
  · obtain ⟨i, l, o, e⟩ := mem_muts.mp m
    cases l with
    | true => exact W.ap i p o e (List.mem_cons_self ..)
    | false =>
      have := (W.ok i _ e).2.1
      rw [if_neg (by decide)] at this
      exact h0 (hs p this)
/-- a slot takes a thing that may change -/
theorem Wd.setM {p : Addr} {l : Bool} {o : MO} (W : Wd (c.hidden p) T H σ ρ) (hs : ∀ a ∈ c.M, a ∈ c.S0) (i : Nat) (hB : if l = true then c.B p = none else p ∈ c.M) (hn : p ∉ hid c ρ) (h : MoOk c.K (p :: hid c ρ) H p o) :
    Wd c T H (σ.set i (some (.ref p))) (ρ.set i (.mu l p o)) := by
  have nm : ∀ (j : Nat) (m : Bool) (u : MO), ρ[j]? ≠ some (.mu m p u) := fun j m u e => hn (List.mem_append_right _ (mem_muts.mpr ⟨j, m, u, e⟩))
  have sub : ∀ a, a ∈ hid c (ρ.set i (.mu l p o)) → a ∈ hid (c.hidden p) ρ := fun a m => by
    rcases List.mem_append.mp m with m | m
    · exact List.mem_append_left _ (List.mem_cons_of_mem _ m)
    · obtain ⟨j, l', u, e⟩ := mem_muts.mp m
      rcases get_set e with ⟨_, _, e⟩ | ⟨_, e⟩
      · cases e; exact List.mem_append_left _ (List.mem_cons_self ..)
      · exact List.mem_append_right _ (mem_muts.mpr ⟨j, l', u, e⟩)
  have e2 : Ex (hide (hid (c.hidden p) ρ) H) (hide (hid c (ρ.set i (.mu l p o))) H) := hide_mono fun a o n h => ⟨fun m => n (sub a m), h⟩
  refine ⟨by rw [List.length_set, List.length_set]; exact W.len, W.keep, hs, fun a h => W.dom a (List.mem_cons_of_mem _ h), fun q hq => dpm e2 (W.tmp q hq), fun j k l1 l2 a u u' h1 h2 => ?_, fun j a u h1 => ?_, fun j z hz => ?_⟩
  · rcases get_set h1 with ⟨q, _, e⟩ | ⟨q, e⟩
    · rcases get_set h2 with ⟨q2, _, e'⟩ | ⟨q2, e'⟩
      · exact q.symm.trans q2
      · cases e; exact absurd e' (nm k l2 u')
    · rcases get_set h2 with ⟨q2, _, e'⟩ | ⟨q2, e'⟩
      · cases e'; exact absurd e (nm j l1 u)
      · exact W.inj j k l1 l2 a u u' e e'
  · rcases get_set h1 with ⟨_, _, e⟩ | ⟨_, e⟩
    · cases e; exact fun m => hn (List.mem_append_left _ m)
    · exact fun m => W.ap j a u e (List.mem_cons_of_mem _ m)
  · rcases get_set hz with ⟨q, hi, e⟩ | ⟨q, e⟩
    · subst q; subst e
      rw [List.getElem?_set_self (by rw [W.len]; exact hi)]
      exact ⟨rfl, hB, h.mono e2 rfl⟩
    · rw [List.getElem?_set_ne q]
      have := slOk_mono (H' := H) e2 (fun _ _ => rfl) (W.ok j z e)
      cases z <;> exact this
/-- what may change has changed -/
theorem Wd.chg {a : Addr} {l : Bool} {o o' : MO} {i : Nat} (W : Wd c T H σ ρ) (hi : ρ[i]? = some (.mu l a o)) (hk : ∀ b u, b ≠ a → H b = some u → H' b = some u) (h : MoOk c.K (hid c ρ) H' a o') : Wd c T H' σ (ρ.set i (.mu l a o')) := by
  obtain ⟨h1, h2, h3⟩ := W.ok i _ hi
  have hm : a ∈ hid c ρ := List.mem_append_right _ (mem_muts.mpr ⟨i, l, o, hi⟩)
  have r : ∀ {j : Nat} {m : Bool} {b : Addr} {u : MO}, (ρ.set i (.mu l a o'))[j]? = some (.mu m b u) → ∃ u', ρ[j]? = some (.mu m b u') := fun {j m b u} h => by
    rcases get_set h with ⟨q, _, e⟩ | ⟨_, e⟩
    · cases e; subst q; exact ⟨_, hi⟩
    · exact ⟨_, e⟩
  have sub : ∀ b, b ∈ hid c (ρ.set i (.mu l a o')) → b ∈ hid c ρ := fun b m => by
    rcases List.mem_append.mp m with m | m
    · exact List.mem_append_left _ m
    · obtain ⟨j, m', v, e⟩ := mem_muts.mp m
      obtain ⟨v', e⟩ := r e
      exact List.mem_append_right _ (mem_muts.mpr ⟨j, m', v', e⟩)
  have e2 : Ex (hide (hid c ρ) H) (hide (hid c (ρ.set i (.mu l a o'))) H') := hide_mono fun b v n h => ⟨fun m => n (sub b m), hk b v (fun q => by rw [q] at n; exact n hm) h⟩
  have e3 : Ex (hide (hid c ρ) H') (hide (hid c (ρ.set i (.mu l a o'))) H') := hide_mono fun b v n h => ⟨fun m => n (sub b m), h⟩
  refine ⟨by rw [List.length_set]; exact W.len, fun b v n e => ?_, W.sub, fun b hb => ?_, fun q hq => dpm e2 (W.tmp q hq), fun j k m m' b v v' g1 g2 => ?_, fun j b v g => ?_, fun j z hz => ?_⟩
  · refine hk b v ?_ (W.keep b v n e)
    intro q
    subst q
    cases l with
    | true => rw [if_pos rfl] at h2; rw [h2] at e; cases e
    | false => rw [if_neg (by decide)] at h2; exact n h2
  · by_cases q : b = a
    · subst q; exact h.there
    · obtain ⟨o, e⟩ := W.dom b hb
      exact ⟨o, hk b o q e⟩
  · obtain ⟨w, g1⟩ := r g1
    obtain ⟨w', g2⟩ := r g2
    exact W.inj j k m m' b w w' g1 g2
  · obtain ⟨w, g⟩ := r g
    exact W.ap j b w g
  · rcases get_set hz with ⟨q, _, e⟩ | ⟨q, e⟩
    · subst q; subst e
      exact ⟨h1, h2, h.mono e3 rfl⟩
    · refine slOk_mono e2 (fun b eb => ?_) (W.ok j z e)
      cases z with
      | mu m b' v =>
        cases eb
        have nb : b ≠ a := fun eab => q (by rw [eab] at e; exact W.inj i j l m a _ _ hi e)
        obtain ⟨u, hu⟩ := (W.ok j _ e).2.2.there
        rw [hu, hk _ _ nb hu]
      | _ => cases eb
theorem Wd.updM {a : Addr} {l : Bool} {o o' : MO} {i : Nat} {u : HO} (W : Wd c T H σ ρ) (hi : ρ[i]? = some (.mu l a o)) (h : MoOk c.K (hid c ρ) (upd H a u) a o') : Wd c T (upd H a u) σ (ρ.set i (.mu l a o')) :=
  W.chg hi (fun b v n e => by rw [upd_ne n]; exact e) h
end
def MoLe (o u : MO) : Prop := o = u ∨ ∃ ds P, o = .lst ds ∧ u = .any P ∧ P ds
theorem MoOk.le {K : PySem.W.Frag} {S : List Addr} {H : Hp} {a : Addr} {o u : MO} (h : MoOk K S H a o) (l : MoLe o u) : MoOk K S H a u := by
  rcases l with rfl | ⟨ds, P, rfl, rfl, p⟩
  · exact h
  · obtain ⟨xs, h1, h2⟩ := h
    exact ⟨xs, h1, ds, p, h2⟩
/-- weaker: slots forgotten, things frozen -/
def slLe : Sl → Sl → Prop
  | _, .no => True
  | .da d, .da e => d = e
  | .mu l _ (.lst ds), .da e => l = true ∧ .list ds = e
  | .mu l a o, .mu m b u => l = m ∧ a = b ∧ MoLe o u
  | .vl v, .vl w => v = w
  | _, _ => False
theorem Wd.weak {c : Cz} {T : Tm} {H : Hp} {σ : L2.St} {ρ ρ' : List Sl} (W : Wd c T H σ ρ) (hl : ρ.length = ρ'.length) (h : ∀ (i : Nat) (s s' : Sl), ρ[i]? = some s → ρ'[i]? = some s' → slLe s s') : Wd c T H σ ρ' := by
  have gt : ∀ {i : Nat} {s' : Sl}, ρ'[i]? = some s' → ∃ s, ρ[i]? = some s ∧ slLe s s' := fun {i s'} e => by
    have hi := (List.getElem?_eq_some_iff.mp e).1
    have hi' : i < ρ.length := by omega
    exact ⟨_, List.getElem?_eq_getElem hi', h i _ _ (List.getElem?_eq_getElem hi') e⟩
  have r : ∀ {j : Nat} {m : Bool} {b : Addr} {u : MO}, ρ'[j]? = some (.mu m b u) → ∃ o, ρ[j]? = some (.mu m b o) := fun {j m b u} e => by
    obtain ⟨s, e1, l⟩ := gt e
    cases s with
    | mu l' a' o' =>
      obtain ⟨rfl, rfl, _⟩ : l' = m ∧ a' = b ∧ MoLe o' u := l
      exact ⟨_, e1⟩
    | _ => exact l.elim
  have sub : ∀ b, b ∈ hid c ρ' → b ∈ hid c ρ := fun b m => by
    rcases List.mem_append.mp m with m | m
    · exact List.mem_append_left _ m
    · obtain ⟨j, l, v, e⟩ := mem_muts.mp m
      obtain ⟨o, e⟩ := r e
      exact List.mem_append_right _ (mem_muts.mpr ⟨j, l, o, e⟩)
  have e2 : Ex (hide (hid c ρ) H) (hide (hid c ρ') H) := hide_mono fun a o n h => ⟨fun m => n (sub a m), h⟩
  refine ⟨W.len.trans hl, W.keep, W.sub, W.dom, fun q hq => dpm e2 (W.tmp q hq), fun i j l m a o u h1 h2 => W.inj i j l m a _ _ (r h1).choose_spec (r h2).choose_spec, fun i a o h => W.ap i a _ (r h).choose_spec, fun i s' e => ?_⟩
  obtain ⟨s, e1, le⟩ := gt e
  have ok := slOk_mono (H' := H) e2 (fun _ _ => rfl) (W.ok i s e1)
  cases s' with
  | no => exact trivial
  | da d =>
    cases s with
    | da e =>
      have le : e = d := le
      subst le
      exact ok
    | mu l a o =>
      cases o with
      | lst ds =>
        obtain ⟨rfl, rfl⟩ : l = true ∧ PyData.list ds = d := le
        obtain ⟨x, y, xs, z1, z2⟩ := ok
        rw [if_pos rfl] at y
        refine ⟨.ref a, x, .lst (sq_of (hide_of (fun m => ?_) z1)) z2⟩
        rcases List.mem_append.mp m with m | m
        · exact W.ap i a _ e1 m
        · obtain ⟨j, m', v, e'⟩ := mem_muts.mp m
          have := W.inj i j _ _ _ _ _ e1 (r e').choose_spec
          subst this
          rw [e] at e'
          cases e'
      | dK _ => exact le.elim
      | dT _ => exact le.elim
      | any _ => exact le.elim
    | no => exact le.elim
    | vl _ => exact le.elim
  | mu m b u =>
    cases s with
    | mu l a o =>
      obtain ⟨rfl, rfl, le⟩ : l = m ∧ a = b ∧ MoLe o u := le
      obtain ⟨x, y, z⟩ := ok
      exact ⟨x, y, z.le le⟩
    | _ => exact le.elim
  | vl w =>
    cases s with
    | vl v =>
      have le : v = w := le
      subst le
      exact ok
    | _ => exact le.elim

theorem set_no {ρ : List Sl} {j : Nat} (h : ρ[j]? = some .no) : ρ.set j .no = ρ := by
  apply List.ext_getElem?
  intro k
  by_cases q : j = k
  · subst q
    rw [List.getElem?_set_self (List.getElem?_eq_some_iff.mp h).1, h]
  · rw [List.getElem?_set_ne q]
theorem Wd.wipe {c : Cz} {T : Tm} {H : Hp} {σ : L2.St} {ρ : List Sl} : ∀ {vs : List Nat}, Wd c T H σ ρ → (∀ j ∈ vs, ρ[j]? = some .no) → Wd c T H (L2.wipe σ vs) ρ
  | [], W, _ => W
  | v :: vs, W, h => by
    have W1 := Wd.wipe (vs := vs) W fun j hj => h j (List.mem_cons_of_mem _ hj)
    have W2 := W1.setN v none .no rfl trivial
    rw [set_no (h v (List.mem_cons_self ..))] at W2
    exact W2
theorem wipe_get {σ : L2.St} {i : Nat} : ∀ {vs : List Nat}, i ∉ vs → (L2.wipe σ vs)[i]? = σ[i]?
  | [], _ => rfl
  | v :: vs, h => by
    show ((L2.wipe σ vs).set v none)[i]? = _
    have n : v ≠ i := fun e => h (by rw [e]; exact List.mem_cons_self ..)
    rw [List.getElem?_set_ne n, wipe_get fun m => h (List.mem_cons_of_mem _ m)]
theorem Wd.unwipe {c : Cz} {T : Tm} {H : Hp} {σ : L2.St} {ρ : List Sl} {vs : List Nat} (W : Wd c T H (L2.wipe σ vs) ρ) (h : ∀ j ∈ vs, ρ[j]? = some .no) : Wd c T H σ ρ := by
  refine ⟨by rw [← W.len, L2.wipe_length], W.keep, W.sub, W.dom, W.tmp, W.inj, W.ap, fun i s e => ?_⟩
  by_cases q : i ∈ vs
  · rw [h i q] at e; cases e; exact trivial
  · have := W.ok i s e
    rw [wipe_get q] at this
    exact this
end Nz

namespace Nz
open PySem PySem.Spec PyProof.Rows L2

/-! ### what evaluates to what -/
def Ed (c : Cz) (ρ : List Sl) (te : TE) (d : PyData) (ρ' : List Sl) : Prop := ∀ (T : Tm) (σ : L2.St) (H : Hp), Wd c T H σ ρ → ∀ Q : VK, (∀ v H', Wd c ((v, d) :: T) H' σ ρ' → Q v H') → te σ H Q
def Et (c : Cz) (ρ : List Sl) (tt : TT) (b : Bool) (ρ' : List Sl) : Prop := ∀ (T : Tm) (σ : L2.St) (H : Hp), Wd c T H σ ρ → ∀ Q : Bool → Hp → Prop, (∀ H', Wd c T H' σ ρ' → Q b H') → tt σ H Q
/-- a new list -/
def EdL (c : Cz) (ρ : List Sl) (te : TE) (ds : List PyData) (ρ' : List Sl) : Prop := ∀ (T : Tm) (σ : L2.St) (H : Hp), Wd c T H σ ρ → ∀ Q : VK,
  (∀ p H', c.B p = none → p ∉ hid c ρ' → MoOk c.K (p :: hid c ρ') H' p (.lst ds) → Wd (c.hidden p) T H' σ ρ' → Q (.ref p) H') → te σ H Q
inductive Ar where
  | raw (v : V)
  | dat (d : PyData)
inductive AA (K : PySem.W.Frag) (H : Hp) : List V → List Ar → Prop
  | nil : AA K H [] []
  | raw {v : V} {vs : List V} {as : List Ar} : AA K H vs as → AA K H (v :: vs) (.raw v :: as)
  | dat {v : V} {d : PyData} {vs : List V} {as : List Ar} : Dz K H v d → AA K H vs as → AA K H (v :: vs) (.dat d :: as)
def Ea (c : Cz) (ρ : List Sl) (ta : TA) (as : List Ar) (ρ' : List Sl) : Prop := ∀ (T : Tm) (σ : L2.St) (H : Hp), Wd c T H σ ρ → ∀ Q : List V → Hp → Prop,
  (∀ vs H', AA c.K (hide (hid c ρ') H') vs as → Wd c T H' σ ρ' → Q vs H') → ta σ H Q
/-- a part of a slice -/
def Eo (c : Cz) (ρ : List Sl) (to : TO) (o : Option Int) (ρ' : List Sl) : Prop := ∀ (T : Tm) (σ : L2.St) (H : Hp), Wd c T H σ ρ → ∀ Q : Option Int → Hp → Prop, (∀ H', Wd c T H' σ ρ' → Q o H') → to σ H Q

section
variable {c : Cz} {ρ ρ1 ρ2 ρ3 : List Sl} {ta tb te tx : TE} {t u : TT} {d d1 d2 d3 : PyData} {T : Tm} {H H' : Hp} {σ : L2.St}
theorem Wd.dp {v : V} {d : PyData} {ρ : List Sl} (W : Wd c ((v, d) :: T) H σ ρ) : Dz c.K (hide (hid c ρ) H) v d := W.tmp (v, d) (List.mem_cons_self ..)
theorem ed_is (h : Ed c ρ te d ρ1) (e : d = d1) : Ed c ρ te d1 ρ1 := e ▸ h
theorem et_is {b b1 : Bool} (h : Et c ρ t b ρ1) (e : b = b1) : Et c ρ t b1 ρ1 := e ▸ h
theorem el_is {ds ds1 : List PyData} (h : EdL c ρ te ds ρ1) (e : ds = ds1) : EdL c ρ te ds1 ρ1 := e ▸ h
theorem ed_var {i : Nat} (h : ρ[i]? = some (.da d)) : Ed c ρ (tVar i) d ρ := fun T σ H W Q q => by
  obtain ⟨v, e, dp⟩ := W.ok i _ h
  exact ⟨v, e, q v H (W.push dp)⟩
theorem ed_int {i : Int} : Ed c ρ (tC (.int i)) (.int i) ρ := fun T σ H W Q q => q _ H (W.push (.int i))
theorem ed_bl {b : Bool} : Ed c ρ (tC (.bl b)) (.bool b) ρ := fun T σ H W Q q => q _ H (W.push (.bl b))
theorem ed_str {x : Str} : Ed c ρ (tC (.str x)) (.str x) ρ := fun T σ H W Q q => q _ H (W.push (.str x))
theorem ed_non : Ed c ρ (tC .non) .none ρ := fun T σ H W Q q => q _ H (W.push .non)
/-- a constant of the module -/
theorem ed_ref {a : Addr} (h : ∀ H, Dz c.K H (.ref a) d) : Ed c ρ (tC (.ref a)) d ρ := fun T σ H W Q q => q _ H (W.push (h _))
theorem ed_ofL {ds : List PyData} (h : EdL c ρ te ds ρ1) (hs : ∀ a ∈ c.M, a ∈ c.S0) : Ed c ρ te (.list ds) ρ1 := fun T σ H W Q q => h T σ H W Q fun p H' hB hn hm W' => by
  have W2 := W'.unhide hs
  obtain ⟨xs, h1, h2⟩ := hm
  have e2 : Ex (hide (p :: hid c ρ1) H') (hide (hid c ρ1) H') := hide_mono fun a o n h => ⟨fun m => n (List.mem_cons_of_mem _ m), h⟩
  exact q _ H' (W2.push (.lst (sq_of (hide_of hn h1)) (dpam e2 h2)))
theorem ed_L {ds : List PyData} (h : EdL c ρ te ds ρ1) : Ed c ρ te (.list ds) ρ1 := fun T σ H W => ed_ofL h W.sub T σ H W
/-! #### operators -/
theorem ed_op {r : R2} (ha : Ed c ρ ta d1 ρ1) (hb : Ed c ρ1 tb d2 ρ2)
    (hr : ∀ (T : Tm) (σ : L2.St) (H : Hp) (x y : V), Wd c T H σ ρ2 → Dz c.K (hide (hid c ρ2) H) x d1 → Dz c.K (hide (hid c ρ2) H) y d2 → ∀ Q : VK, (∀ v H', Wd c ((v, d) :: T) H' σ ρ2 → Q v H') → r x y H Q) : Ed c ρ (tOp r ta tb) d ρ2 :=
  fun T σ H W Q q => ha T σ H W _ fun v H1 W1 => hb _ σ H1 W1 _ fun w H2 W2 => hr T σ H2 v w W2.pop.pop W2.pop.dp W2.dp Q q
theorem ed_I0 {f : Int → Int → Int} {i j : Int} (ha : Ed c ρ ta (.int i) ρ1) (hb : Ed c ρ1 tb (.int j) ρ2) : Ed c ρ (tOp (rI0 fun i j => .int (f i j)) ta tb) (.int (f i j)) ρ2 :=
  ed_op ha hb fun T σ H x y W hx hy Q q => ⟨i, j, dp_int hx, dp_int hy, q _ H (W.push (.int _))⟩
theorem ed_B0 {f : Int → Int → Bool} {i j : Int} (ha : Ed c ρ ta (.int i) ρ1) (hb : Ed c ρ1 tb (.int j) ρ2) : Ed c ρ (tOp (rI0 fun i j => .bl (f i j)) ta tb) (.bool (f i j)) ρ2 :=
  ed_op ha hb fun T σ H x y W hx hy Q q => ⟨i, j, dp_int hx, dp_int hy, q _ H (W.push (.bl _))⟩
theorem ed_I {C : Int → Int → Prop} {f : Int → Int → Int} {i j : Int} (ha : Ed c ρ ta (.int i) ρ1) (hb : Ed c ρ1 tb (.int j) ρ2) (hc : C i j) : Ed c ρ (tOp (rI C fun i j => .int (f i j)) ta tb) (.int (f i j)) ρ2 :=
  ed_op ha hb fun T σ H x y W hx hy Q q => ⟨i, j, dp_int hx, dp_int hy, hc, q _ H (W.push (.int _))⟩
theorem ed_neg {f : Int → Int} {i : Int} (ha : Ed c ρ ta (.int i) ρ1) : Ed c ρ (tUn (rU fun i => .int (f i)) ta) (.int (f i)) ρ1 := fun T σ H W Q q => ha T σ H W _ fun v H1 W1 => ⟨i, dp_int W1.dp, q _ H1 (W1.pop.push (.int _))⟩
theorem ed_eq (ha : Ed c ρ ta d1 ρ1) (hb : Ed c ρ1 tb d2 ρ2) (s1 : SeqAt.shaped d1 = true) (s2 : SeqAt.shaped d2 = true) : Ed c ρ (tOp (rEqD c.K) ta tb) (.bool (PyData.eqv d1 d2)) ρ2 :=
  ed_op ha hb fun T σ H x y W hx hy Q q => ⟨d1, d2, dz_dp _ _ (dpm (hide_ex _ _) hx), dz_dp _ _ (dpm (hide_ex _ _) hy), s1, s2, q _ H (W.push (.bl _))⟩
theorem ed_ne (ha : Ed c ρ ta d1 ρ1) (hb : Ed c ρ1 tb d2 ρ2) (s1 : SeqAt.shaped d1 = true) (s2 : SeqAt.shaped d2 = true) : Ed c ρ (tOp (rNeD c.K) ta tb) (.bool (!PyData.eqv d1 d2)) ρ2 :=
  ed_op ha hb fun T σ H x y W hx hy Q q => ⟨d1, d2, dz_dp _ _ (dpm (hide_ex _ _) hx), dz_dp _ _ (dpm (hide_ex _ _) hy), s1, s2, q _ H (W.push (.bl _))⟩
/-- is None, is not None -/
def isNone : PyData → Bool
  | .none => true
  | _ => false
theorem dp_isN {K : PySem.W.Frag} {v : V} (h : Dz K H v d) : decide (v = .non) = isNone d := by
  cases h <;> first | rfl | exact decide_eq_false (fun e => by cases e)
theorem ed_isN (ha : Ed c ρ ta d ρ1) : Ed c ρ (tOp (fun x y H Q => y = .non ∧ Q (.bl (decide (x = .non))) H) ta (tC .non)) (.bool (isNone d)) ρ1 := fun T σ H W Q q => ha T σ H W _ fun v H1 W1 => ⟨rfl, by
  rw [dp_isN W1.dp]
  exact q _ H1 (W1.pop.push (.bl _))⟩
theorem ed_notN (ha : Ed c ρ ta d ρ1) : Ed c ρ (tOp (fun x y H Q => y = .non ∧ Q (.bl (!decide (x = .non))) H) ta (tC .non)) (.bool (!isNone d)) ρ1 := fun T σ H W Q q => ha T σ H W _ fun v H1 W1 => ⟨rfl, by
  rw [dp_isN W1.dp]
  exact q _ H1 (W1.pop.push (.bl _))⟩
/-! #### displays, arguments -/
theorem ea_nil : Ea c ρ tNil [] ρ := fun T σ H W Q q => q [] H .nil W
theorem ea_cons {ts : TA} {as : List Ar} (h : Ed c ρ te d ρ1) (hr : Ea c ρ1 ts as ρ2) : Ea c ρ (tCons te ts) (.dat d :: as) ρ2 := fun T σ H W Q q => h T σ H W _ fun v H1 W1 => hr _ σ H1 W1 _ fun vs H2 a W2 => q _ H2 (.dat W2.dp a) W2.pop
theorem ea_raw {ts : TA} {as : List Ar} {i : Nat} {a : Addr} {l : Bool} {o : MO} (h : ρ[i]? = some (.mu l a o)) (hr : Ea c ρ ts as ρ2) : Ea c ρ (tCons (tVar i) ts) (.raw (.ref a) :: as) ρ2 := fun T σ H W Q q =>
  ⟨.ref a, (W.ok i _ h).1, hr T σ H W _ fun vs H2 a W2 => q _ H2 (.raw a) W2⟩
theorem ea_vl {ts : TA} {as : List Ar} {i : Nat} {v : V} (h : ρ[i]? = some (.vl v)) (hr : Ea c ρ ts as ρ2) : Ea c ρ (tCons (tVar i) ts) (.raw v :: as) ρ2 := fun T σ H W Q q =>
  ⟨v, W.ok i _ h, hr T σ H W _ fun vs H2 a W2 => q _ H2 (.raw a) W2⟩
theorem ea_c {ts : TA} {as : List Ar} {v : V} (hr : Ea c ρ ts as ρ2) : Ea c ρ (tCons (tC v) ts) (.raw v :: as) ρ2 := fun T σ H W Q q => hr T σ H W _ fun vs H2 a W2 => q _ H2 (.raw a) W2
theorem aa_dats {K : PySem.W.Frag} : ∀ {ds : List PyData} {vs : List V}, AA K H vs (ds.map .dat) → DzAll K H vs ds
  | [], _, h => by cases h; exact .nil
  | d :: ds, _, h => by
    cases h with
    | dat h1 h2 => exact .cons h1 (aa_dats h2)
theorem dpa_sz {K : PySem.W.Frag} {ds : List PyData} {vs : List V} (h : DzAll K H vs ds) (hl : ds.length ≤ 100000) : vs.length ≤ sizeLine := by
  rw [dpa_length h]; exact Nat.le_trans hl (by decide)
/-- (a, b, ..): a new tuple with no dict -/
def tTupF (t : TA) : TE := fun σ H Q => t σ H fun xs H1 => xs.length ≤ sizeLine ∧ ∀ p o, o.dict = none → H1 p = none → Q (.ref p) (upd H1 p (.frz o (.tup xs)))
theorem tup_new {ds : List PyData} {vs : List V} {p : Addr} {o : Obj} (W : Wd c T H σ ρ) (a : DzAll c.K (hide (hid c ρ) H) vs ds) (z : o.dict = none) (hp : H p = none) : Wd c ((.ref p, .tuple ds) :: T) (upd H p (.frz o (.tup vs))) σ ρ := by
  have W2 := W.grow (Ex.new (o := .frz o (.tup vs)) hp)
  have e2 : Ex (hide (hid c ρ) H) (hide (hid c ρ) (upd H p (.frz o (.tup vs)))) := hide_mono fun a o n h => ⟨n, Ex.new hp a o h⟩
  exact W2.push (.tup (pt_of (hide_of (W.fresh hp) upd_same) z) (dpam e2 a))
theorem ed_tup {ts : TA} {ds : List PyData} (h : Ea c ρ ts (ds.map .dat) ρ1) (hl : Nat.ble ds.length 100000 = true := by rfl) : Ed c ρ (tTupF ts) (.tuple ds) ρ1 := fun T σ H W Q q => h T σ H W _ fun vs H1 a W1 => ⟨dpa_sz (aa_dats a) (Nat.le_of_ble_eq_true hl), fun p o z hp =>
  q _ _ (tup_new W1 (aa_dats a) z hp)⟩
theorem el_new {ds : List PyData} {vs : List V} {p : Addr} (W : Wd c T H σ ρ) (a : DzAll c.K (hide (hid c ρ) H) vs ds) (hp : H p = none) :
    c.B p = none ∧ p ∉ hid c ρ ∧ MoOk c.K (p :: hid c ρ) (upd H p (.lst vs)) p (.lst ds) ∧ Wd (c.hidden p) T (upd H p (.lst vs)) σ ρ := by
  have e2 : Ex (hide (hid c ρ) H) (hide (p :: hid c ρ) (upd H p (.lst vs))) := hide_mono fun b u m e => ⟨fun q => by
    rcases List.mem_cons.mp q with q | q
    · rw [q, hp] at e; cases e
    · exact m q, Ex.new hp b u e⟩
  exact ⟨W.freshB hp, W.fresh hp, ⟨vs, upd_same, dpam e2 a⟩, W.hideNew hp⟩
theorem el_lst {ts : TA} {ds : List PyData} (h : Ea c ρ ts (ds.map .dat) ρ1) (hl : Nat.ble ds.length 100000 = true := by rfl) : EdL c ρ (tLst ts) ds ρ1 := fun T σ H W Q q => h T σ H W _ fun vs H1 a W1 => ⟨dpa_sz (aa_dats a) (Nat.le_of_ble_eq_true hl), fun p hp => by
  obtain ⟨x1, x2, x3, x4⟩ := el_new W1 (aa_dats a) hp
  exact q p _ x1 x2 x3 x4⟩
/-! #### subscripts, slices -/
theorem atI_dp {K : PySem.W.Frag} {ds : List PyData} {xs : List V} {i : Int} (h : DzAll K H xs ds) (e : atI ds i = some d) : ∃ v, atI xs i = some v ∧ Dz K H v d := by
  unfold atI at e ⊢
  rw [dpa_length h]
  cases q : ixN ds.length i with
  | none => rw [q] at e; cases e
  | some j =>
    rw [q] at e
    exact dpa_get h e
theorem ed_ixT {i : Int} {ds : List PyData} (ha : Ed c ρ ta (.tuple ds) ρ1) (hb : Ed c ρ1 tb (.int i) ρ2) (e : atI ds i = some d) : Ed c ρ (tOp (rIxT c.K) ta tb) d ρ2 :=
  ed_op ha hb fun T σ H x y W hx hy Q q => by
    obtain ⟨a, xs, rfl, hs, h2⟩ := dp_tup hx
    obtain ⟨v, h3, h4⟩ := atI_dp h2 e
    exact ⟨a, xs, i, v, rfl, dp_int hy, (ex_p (hide_ex _ _) hs).sq, h3, q _ H (W.push h4)⟩
theorem ed_ixL {i : Int} {ds : List PyData} (ha : Ed c ρ ta (.list ds) ρ1) (hb : Ed c ρ1 tb (.int i) ρ2) (e : atI ds i = some d) : Ed c ρ (tOp (rIxL c.K) ta tb) d ρ2 :=
  ed_op ha hb fun T σ H x y W hx hy Q q => by
    obtain ⟨a, xs, rfl, hs, h2⟩ := dp_lst hx
    obtain ⟨v, h3, h4⟩ := atI_dp h2 e
    exact ⟨a, xs, i, v, rfl, dp_int hy, ex_l (hide_ex _ _) hs, h3, q _ H (W.push h4)⟩
/-- of a list that may change -/
theorem ed_ixM {i : Int} {ds : List PyData} {j : Nat} {l : Bool} {a : Addr} (hb : Ed c ρ tb (.int i) ρ1) (ha : ρ1[j]? = some (.mu l a (.lst ds))) (ha0 : ∃ l o, ρ[j]? = some (.mu l a o)) (e : atI ds i = some d) : Ed c ρ (tOp (rIxL c.K) (tVar j) tb) d ρ1 := fun T σ H W Q q => by
  obtain ⟨l0, o0, h0⟩ := ha0
  refine ⟨.ref a, (W.ok j _ h0).1, hb T σ H W _ fun v H1 W1 => ?_⟩
  obtain ⟨_, _, xs, h1, h2⟩ := W1.ok j _ ha
  obtain ⟨w, h3, h4⟩ := atI_dp h2 e
  exact ⟨a, xs, i, w, rfl, dp_int W1.dp, sq_of h1, h3, q _ H1 (W1.pop.push h4)⟩
theorem eo_no : Eo c ρ tNoPart none ρ := fun T σ H W Q q => q H W
theorem eo_some {i : Int} (h : Ed c ρ te (.int i) ρ1) : Eo c ρ (tPart te) (some i) ρ1 := fun T σ H W Q q => h T σ H W _ fun v H1 W1 => ⟨i, dp_int W1.dp, q H1 W1.pop⟩
def cutD (ds : List PyData) (lo hi : Option Int) : List PyData := (ds.drop (HT.sIx ds.length 0 lo)).take (HT.sIx ds.length ds.length hi - HT.sIx ds.length 0 lo)
theorem cut_dp {K : PySem.W.Frag} {ds : List PyData} {xs : List V} (h : DzAll K H xs ds) (lo hi : Option Int) : DzAll K H (cutV xs lo hi) (cutD ds lo hi) := by
  unfold cutV cutD
  rw [dpa_length h]
  exact dpa_take _ (dpa_drop _ h)
theorem el_slice {ds : List PyData} {tl th : TO} {lo hi : Option Int} (ha : Ed c ρ ta (.list ds) ρ1) (hl : Eo c ρ1 tl lo ρ2) (hh : Eo c ρ2 th hi ρ3) : EdL c ρ (tSl (rSlL c.K) ta tl th) (cutD ds lo hi) ρ3 := fun T σ H W Q q =>
  ha T σ H W _ fun v H1 W1 => hl _ σ H1 W1 _ fun H2 W2 => hh _ σ H2 W2 _ fun H3 W3 => by
    obtain ⟨a, xs, rfl, hs, h2⟩ := dp_lst W3.dp
    refine ⟨a, xs, rfl, ex_l (hide_ex _ _) hs, fun p hp => ?_⟩
    obtain ⟨x1, x2, x3, x4⟩ := el_new W3.pop (cut_dp h2 lo hi) hp
    exact q p _ x1 x2 x3 x4
/-! #### tests -/
theorem et_test {b : Bool} (h : Ed c ρ te (.bool b) ρ1) : Et c ρ (tTest te) b ρ1 := fun T σ H W Q q => h T σ H W _ fun v H1 W1 => ⟨b, dp_bl W1.dp, q H1 W1.pop⟩
theorem et_B {b : Bool} (h : Ed c ρ te (.bool b) ρ1) : Et c ρ (tB te) b ρ1 := fun T σ H W Q q => h T σ H W _ fun v H1 W1 => ⟨b, dp_bl W1.dp, q H1 W1.pop⟩
def truD : PyData → Bool
  | .none => false
  | .bool b => b
  | .int i => i != 0
  | .list ds => !ds.isEmpty
  | .tuple ds => !ds.isEmpty
  | _ => false
def truOk : PyData → Bool
  | .str _ => false
  | .dict _ => false
  | _ => true
theorem isEmpty_dp {K : PySem.W.Frag} {ds : List PyData} {xs : List V} (h : DzAll K H xs ds) : xs.isEmpty = ds.isEmpty := by cases h <;> rfl
theorem tru_dp {K : PySem.W.Frag} {v : V} (h : Dz K H v d) (ok : truOk d = true) : TruV K v H (truD d) := by
  cases h with
  | non => rfl
  | bl b => rfl
  | int i => rfl
  | str x => cases ok
  | lst hs ha => exact .inl ⟨_, hs, by rw [isEmpty_dp ha]; rfl⟩
  | tup hs ha => exact .inr (.inl ⟨_, hs.sq, by rw [isEmpty_dp ha]; rfl⟩)
theorem et_tru (h : Ed c ρ te d ρ1) (ok : truOk d = true := by rfl) : Et c ρ (fun σ H Q => te σ H fun x H' => ∃ k, TruV c.K x H' k ∧ Q k H') (truD d) ρ1 := fun T σ H W Q q => h T σ H W _ fun v H1 W1 => ⟨_, tru_dp (dpm (hide_ex _ _) W1.dp) ok, q H1 W1.pop⟩
theorem et_and {a b : Bool} (h1 : Et c ρ t a ρ1) (h2 : a = true → Et c ρ1 u b ρ1) : Et c ρ (tAnd t u) (a && b) ρ1 := fun T σ H W Q q => h1 T σ H W _ fun H1 W1 => by
  cases a with
  | true => exact h2 rfl T σ H1 W1 Q q
  | false => exact q H1 W1
theorem et_or {a b : Bool} (h1 : Et c ρ t a ρ1) (h2 : a = false → Et c ρ1 u b ρ1) : Et c ρ (tOr t u) (a || b) ρ1 := fun T σ H W Q q => h1 T σ H W _ fun H1 W1 => by
  cases a with
  | true => exact q H1 W1
  | false => exact h2 rfl T σ H1 W1 Q q
theorem et_not {a : Bool} (h1 : Et c ρ t a ρ1) : Et c ρ (tNot t) (!a) ρ1 := fun T σ H W Q q => h1 T σ H W _ fun H1 W1 => q H1 W1
theorem ed_and {a b : Bool} (h1 : Ed c ρ ta (.bool a) ρ1) (h2 : a = true → Ed c ρ1 tb (.bool b) ρ1) : Ed c ρ (tAndV ta tb) (.bool (a && b)) ρ1 := fun T σ H W Q q => h1 T σ H W _ fun v H1 W1 => ⟨a, dp_bl W1.dp, by
  cases a with
  | true => exact h2 rfl T σ H1 W1.pop Q q
  | false => exact q _ H1 (W1.pop.push (.bl _))⟩
theorem ed_or {a b : Bool} (h1 : Ed c ρ ta (.bool a) ρ1) (h2 : a = false → Ed c ρ1 tb (.bool b) ρ1) : Ed c ρ (tOrV ta tb) (.bool (a || b)) ρ1 := fun T σ H W Q q => h1 T σ H W _ fun v H1 W1 => ⟨a, dp_bl W1.dp, by
  cases a with
  | true => exact q _ H1 (W1.pop.push (.bl _))
  | false => exact h2 rfl T σ H1 W1.pop Q q⟩
theorem ed_not {a : Bool} (h1 : Ed c ρ ta (.bool a) ρ1) : Ed c ρ (tNotV ta) (.bool (!a)) ρ1 := fun T σ H W Q q => h1 T σ H W _ fun v H1 W1 => ⟨a, dp_bl W1.dp, q _ H1 (W1.pop.push (.bl _))⟩
theorem ed_if {b : Bool} (h : Et c ρ t b ρ1) (h1 : b = true → Ed c ρ1 ta d ρ2) (h2 : b = false → Ed c ρ1 tb d ρ2) : Ed c ρ (tIf t ta tb) d ρ2 := fun T σ H W Q q => h T σ H W _ fun H1 W1 => by
  cases b with
  | true => exact h1 rfl T σ H1 W1 Q q
  | false => exact h2 rfl T σ H1 W1 Q q
/-- a op b op c of ints -/
theorem ed_chain {f g : Int → Int → Bool} {i j k : Int} {tc : TE} (ha : Ed c ρ ta (.int i) ρ1) (hb : Ed c ρ1 tb (.int j) ρ2) (hc : f i j = true → Ed c ρ2 tc (.int k) ρ2) :
    Ed c ρ (tChain (rI0 fun i j => .bl (f i j)) (rI0 fun i j => .bl (g i j)) ta tb tc) (.bool (f i j && g j k)) ρ2 := fun T σ H W Q q => ha T σ H W _ fun v H1 W1 => hb _ σ H1 W1 _ fun w H2 W2 =>
  ⟨i, j, dp_int W2.pop.dp, dp_int W2.dp, f i j, rfl, by
    cases e : f i j with
    | true =>
      refine hc e _ σ H2 W2 _ fun z H3 W3 => ⟨j, k, dp_int W3.pop.dp, dp_int W3.dp, ?_⟩
      rw [e, Bool.true_and] at q
      exact q _ H3 (W3.pop.pop.pop.push (.bl _))
    | false =>
      rw [e, Bool.false_and] at q
      exact q _ H2 (W2.pop.pop.push (.bl _))⟩
/-! #### calls -/
/-- a pure def's promise: from data to data, by R -/
def SpP (K : PySem.W.Frag) (R : List PyData → PyData → Prop) : Sp := fun vs H Q _ => ∃ (S : List Addr) (ds : List PyData) (d : PyData), (∀ a ∈ S, ∃ o, H a = some o) ∧ DzAll K (hide S H) vs ds ∧ R ds d ∧
  ∀ v H', Ex H H' → Dz K (hide S H') v d → Q v H'
theorem ed_call {R : List PyData → PyData → Prop} {ts : TA} {ds : List PyData} {E : XK} (h : Ea c ρ ts (ds.map .dat) ρ1) (hR : R ds d) : Ed c ρ (tCall (SpP c.K R) [] E ts) d ρ1 := fun T σ H W Q q => h T σ H W _ fun vs H1 a W1 => by
  rw [List.append_nil]
  exact ⟨hid c ρ1, ds, d, fun a h => W1.there h, aa_dats a, hR, fun v H' e dp => q v H' ((W1.grow e).push dp)⟩
/-- a def's promise that changes its first argument -/
def SpS (K : PySem.W.Frag) (R : MO → List PyData → MO → PyData → Prop) : Sp := fun vs H Q _ => ∃ (S : List Addr) (a : Addr) (st st' : MO) (vs' : List V) (ds : List PyData) (d : PyData), vs = .ref a :: vs' ∧ a ∈ S ∧ (∀ b ∈ S, ∃ o, H b = some o) ∧
  MoOk K S H a st ∧ DzAll K (hide S H) vs' ds ∧ R st ds st' d ∧ ∀ v H', (∀ b o, b ≠ a → H b = some o → H' b = some o) → MoOk K S H' a st' → Dz K (hide S H') v d → Q v H'
theorem ed_callS {R : MO → List PyData → MO → PyData → Prop} {ts : TA} {ds : List PyData} {E : XK} {i : Nat} {l : Bool} {a : Addr} {st st' : MO} (h : Ea c ρ ts (.raw (.ref a) :: ds.map .dat) ρ1) (hi : ρ1[i]? = some (.mu l a st)) (hR : R st ds st' d) :
    Ed c ρ (tCall (SpS c.K R) [] E ts) d (ρ1.set i (.mu l a st')) := fun T σ H W Q q => h T σ H W _ fun vs H1 aa W1 => by
  rw [List.append_nil]
  cases aa with
  | raw aa =>
    have hm : a ∈ hid c ρ1 := List.mem_append_right _ (mem_muts.mpr ⟨i, l, st, hi⟩)
    refine ⟨hid c ρ1, a, st, st', _, ds, d, rfl, hm, fun a h => W1.there h, (W1.ok i _ hi).2.2, aa_dats aa, hR, fun v H' hk mo dp => q v H' ((W1.chg hi hk mo).push ?_)⟩
    refine dpm (hide_mono fun b o n e => ⟨fun m => n ?_, e⟩) dp
    rcases List.mem_append.mp m with m | m
    · exact List.mem_append_left _ m
    · obtain ⟨j, m', u, e⟩ := mem_muts.mp m
      rcases get_set e with ⟨_, _, e⟩ | ⟨_, e⟩
      · cases e; exact hm
      · exact List.mem_append_right _ (mem_muts.mpr ⟨j, m', u, e⟩)
/-! #### built-ins -/
theorem ed_cb {r : List V → Hp → VK → Prop} {ts : TA} {as : List Ar} (h : Ea c ρ ts as ρ1)
    (hr : ∀ (T : Tm) (σ : L2.St) (H : Hp) (vs : List V), Wd c T H σ ρ1 → AA c.K (hide (hid c ρ1) H) vs as → ∀ Q : VK, (∀ v H', Wd c ((v, d) :: T) H' σ ρ1 → Q v H') → r vs H Q) : Ed c ρ (tCB r ts) d ρ1 :=
  fun T σ H W Q q => h T σ H W _ fun vs H1 a W1 => hr T σ H1 vs W1 a Q q
theorem aa1 {K : PySem.W.Frag} {vs : List V} (a : AA K H vs [.dat d]) : ∃ v, vs = [v] ∧ Dz K H v d := by
  cases a with
  | dat h t => cases t; exact ⟨_, rfl, h⟩
theorem aa2 {K : PySem.W.Frag} {vs : List V} (a : AA K H vs [.dat d, .dat d1]) : ∃ v w, vs = [v, w] ∧ Dz K H v d ∧ Dz K H w d1 := by
  cases a with
  | dat h t =>
    obtain ⟨w, rfl, h2⟩ := aa1 t
    exact ⟨_, w, rfl, h, h2⟩
def rLenS (K : PySem.W.Frag) : List V → Hp → VK → Prop := fun xs H Q => ∃ p ys, xs = [.ref p] ∧ (SqL K H p ys ∨ SqT K H p ys) ∧ Q (.int ys.length) H
theorem ed_lenT {ds : List PyData} (h : Ed c ρ te (.tuple ds) ρ1) : Ed c ρ (tCB (rLenS c.K) (tCons te tNil)) (.int (ds.length : Int)) ρ1 := fun T σ H W Q q => h T σ H W _ fun v H1 W1 => by
  obtain ⟨a, xs, rfl, hs, h2⟩ := dp_tup W1.dp
  refine ⟨a, xs, rfl, .inr (ex_p (hide_ex _ _) hs).sq, ?_⟩
  rw [dpa_length h2]
  exact q _ H1 (W1.pop.push (.int _))
theorem ed_lenL {ds : List PyData} (h : Ed c ρ te (.list ds) ρ1) : Ed c ρ (tCB (rLenS c.K) (tCons te tNil)) (.int (ds.length : Int)) ρ1 := fun T σ H W Q q => h T σ H W _ fun v H1 W1 => by
  obtain ⟨a, xs, rfl, hs, h2⟩ := dp_lst W1.dp
  refine ⟨a, xs, rfl, .inl (ex_l (hide_ex _ _) hs), ?_⟩
  rw [dpa_length h2]
  exact q _ H1 (W1.pop.push (.int _))
theorem ed_lenM {ds : List PyData} {j : Nat} {l : Bool} {a : Addr} (ha : ρ[j]? = some (.mu l a (.lst ds))) : Ed c ρ (tCB (rLenS c.K) (tCons (tVar j) tNil)) (.int (ds.length : Int)) ρ := fun T σ H W Q q => by
  obtain ⟨h0, _, xs, h1, h2⟩ := W.ok j _ ha
  refine ⟨.ref a, h0, a, xs, rfl, .inl (sq_of h1), ?_⟩
  rw [dpa_length h2]
  exact q _ H (W.push (.int _))
theorem ed_abs {i : Int} (h : Ed c ρ te (.int i) ρ1) : Ed c ρ (tCB (fun xs H Q => ∃ i, xs = [.int i] ∧ Q (.int (if i < 0 then -i else i)) H) (tCons te tNil)) (.int (i.natAbs : Int)) ρ1 := fun T σ H W Q q => h T σ H W _ fun v H1 W1 => by
  refine ⟨i, by rw [dp_int W1.dp], ?_⟩
  have e : (if i < 0 then -i else i) = (i.natAbs : Int) := by split <;> omega
  rw [e]
  exact q _ H1 (W1.pop.push (.int _))
theorem ed_intI {i : Int} (h : Ed c ρ te (.int i) ρ1) : Ed c ρ (tCB (fun xs H Q => (∃ i, xs = [.int i] ∧ Q (.int i) H) ∨ ∃ k, xs = [.bl k] ∧ Q (.int (if k then 1 else 0)) H) (tCons te tNil)) (.int i) ρ1 := fun T σ H W Q q => h T σ H W _ fun v H1 W1 =>
  .inl ⟨i, by rw [dp_int W1.dp], q _ H1 (W1.pop.push (.int _))⟩
theorem ed_intB {b : Bool} (h : Ed c ρ te (.bool b) ρ1) : Ed c ρ (tCB (fun xs H Q => (∃ i, xs = [.int i] ∧ Q (.int i) H) ∨ ∃ k, xs = [.bl k] ∧ Q (.int (if k then 1 else 0)) H) (tCons te tNil)) (.int (if b then 1 else 0)) ρ1 := fun T σ H W Q q => h T σ H W _ fun v H1 W1 =>
  .inr ⟨b, by rw [dp_bl W1.dp], q _ H1 (W1.pop.push (.int _))⟩
theorem el_listOf {te : TE} {ds : List PyData} (h : Ed c ρ te (.list ds) ρ1 ∨ Ed c ρ te (.tuple ds) ρ1) :
    EdL c ρ (tCB (fun xs H Q => ∃ p ys, xs = [.ref p] ∧ (SqL c.K H p ys ∨ SqT c.K H p ys) ∧ ∀ l, H l = none → Q (.ref l) (upd H l (.lst ys))) (tCons te tNil)) ds ρ1 := fun T σ H W Q q => by
  rcases h with h | h
  · refine h T σ H W _ fun v H1 W1 => ?_
    obtain ⟨a, xs, rfl, hs, h2⟩ := dp_lst W1.dp
    refine ⟨a, xs, rfl, .inl (ex_l (hide_ex _ _) hs), fun p hp => ?_⟩
    obtain ⟨x1, x2, x3, x4⟩ := el_new W1.pop h2 hp
    exact q p _ x1 x2 x3 x4
  · refine h T σ H W _ fun v H1 W1 => ?_
    obtain ⟨a, xs, rfl, hs, h2⟩ := dp_tup W1.dp
    refine ⟨a, xs, rfl, .inr (ex_p (hide_ex _ _) hs).sq, fun p hp => ?_⟩
    obtain ⟨x1, x2, x3, x4⟩ := el_new W1.pop h2 hp
    exact q p _ x1 x2 x3 x4
/-- tuple(..) of a list: a new one; of a tuple: itself -/
def rTupOf (K : PySem.W.Frag) : List V → Hp → VK → Prop := fun xs H Q => ∃ p ys, xs = [.ref p] ∧ ((SqL K H p ys ∧ ∀ l o, o.dict = none → H l = none → Q (.ref l) (upd H l (.frz o (.tup ys)))) ∨ (SqT K H p ys ∧ Q (.ref p) H))
theorem ed_tupleL {ds : List PyData} (h : Ed c ρ te (.list ds) ρ1) : Ed c ρ (tCB (rTupOf c.K) (tCons te tNil)) (.tuple ds) ρ1 := fun T σ H W Q q =>
  h T σ H W _ fun v H1 W1 => by
    obtain ⟨a, xs, rfl, hs, h2⟩ := dp_lst W1.dp
    exact ⟨a, xs, rfl, .inl ⟨ex_l (hide_ex _ _) hs, fun p o z hp => q _ _ (tup_new W1.pop h2 z hp)⟩⟩
theorem ed_tupleT {ds : List PyData} (h : Ed c ρ te (.tuple ds) ρ1) : Ed c ρ (tCB (rTupOf c.K) (tCons te tNil)) (.tuple ds) ρ1 := fun T σ H W Q q =>
  h T σ H W _ fun v H1 W1 => by
    obtain ⟨a, xs, rfl, hs, h2⟩ := dp_tup W1.dp
    exact ⟨a, xs, rfl, .inr ⟨(ex_p (hide_ex _ _) hs).sq, q _ _ W1⟩⟩
end
end Nz

namespace Nz
open PySem PySem.Spec PyProof.Rows L2 RZ

/-! ### what is walked -/
/-- an item that comes: data; a pair that was just made, of data (to be unpacked at once) -/
inductive Itm where
  | hard (d : PyData)
  | soft (ds : List PyData)
def YOk (c : Cz) (T : Tm) (H : Hp) (σ : L2.St) (ρ : List Sl) (x : V) : Itm → Prop
  | .hard d => Wd c ((x, d) :: T) H σ ρ
  | .soft ds => ∃ a xs, x = .ref a ∧ SqT c.K H a xs ∧ xs.length = ds.length ∧ Wd c (xs.zip ds ++ T) H σ ρ
def Walks (K : PySem.W.Frag) (J : It) (T1 : Tm) (ds : List Itm) : Prop := ∀ (c : Cz) (T : Tm) (σ : L2.St) (H : Hp) (ρ : List Sl), c.K = K → Wd c (T1 ++ T) H σ ρ →
  (∀ i, i < ds.length → J.go i H ∧ ∀ x H', J.yld i H x H' → ∃ d, ds[i]? = some d ∧ YOk c (T1 ++ T) H' σ ρ x d) ∧ ∀ i, ds.length ≤ i → J.stop i H
def Ei (c : Cz) (ρ : List Sl) (wi : TI) (ds : List Itm) (ρ' : List Sl) : Prop := ∀ (T : Tm) (σ : L2.St) (H : Hp), Wd c T H σ ρ → ∀ R : It → Hp → Prop, (∀ J H' T1, Wd c (T1 ++ T) H' σ ρ' → Walks c.K J T1 ds → R J H') → wi σ H R
/-- a target takes an item; ws: the slots that it may store -/
def Eg (c : Cz) (g : TG) (d : Itm) (ρ ρ' : List Sl) (ws : List Nat) : Prop := ∀ (T : Tm) (σ : L2.St) (H : Hp) (v : V), YOk c T H σ ρ v d → ∀ Q : L2.St → Hp → Prop, (∀ σ' H', Wd c T H' σ' ρ' → L2.wipe σ' ws = L2.wipe σ ws → Q σ' H') → g v σ H Q

section
variable {c : Cz} {ρ ρ1 ρ2 ρ3 : List Sl} {ta tb te tx : TE} {t u : TT} {d d1 d2 d3 : PyData} {T : Tm} {H H' : Hp} {σ : L2.St}
abbrev hards (ds : List PyData) : List Itm := ds.map .hard
theorem hards_get {ds : List PyData} {i : Nat} (h : i < ds.length) : (hards ds)[i]? = some (.hard ds[i]) := by rw [List.getElem?_map, List.getElem?_eq_getElem h]; rfl
theorem ei_list {ds : List PyData} (h : Ed c ρ te (.list ds) ρ1) : Ei c ρ (iList c.K te) (hards ds) ρ1 := fun T σ H W R q => h T σ H W _ fun v H1 W1 => by
  obtain ⟨a, xs, rfl, hs, h2⟩ := dp_lst W1.dp
  refine ⟨a, rfl, ⟨xs, ex_l (hide_ex _ _) hs⟩, q _ H1 [(.ref a, .list ds)] W1 ?_⟩
  rintro c' T' σ' H' ρ' hK W'
  obtain ⟨b, ys, e, hs', h2'⟩ := dp_lst W'.dp
  cases e
  have hs2 : SqL c.K H' a ys := hK ▸ ex_l (hide_ex _ _) hs'
  have hl := dpa_length h2'
  rw [List.length_map]
  refine ⟨fun i hi => ?_, fun i hi => ⟨ys, hs2, by omega⟩⟩
  obtain ⟨x, hx, dx⟩ := dpa_get h2' (List.getElem?_eq_getElem hi)
  refine ⟨⟨ys, x, hs2, hx⟩, fun y H2 hy => ?_⟩
  obtain ⟨rfl, hy⟩ := hy
  have := (hy ys hs2).symm.trans hx
  cases this
  exact ⟨_, hards_get hi, W'.push dx⟩
theorem ei_tup {ds : List PyData} (h : Ed c ρ te (.tuple ds) ρ1) : Ei c ρ (iTup c.K te) (hards ds) ρ1 := fun T σ H W R q => h T σ H W _ fun v H1 W1 => by
  obtain ⟨a, xs, rfl, hs, h2⟩ := dp_tup W1.dp
  refine ⟨a, rfl, ⟨xs, (ex_p (hide_ex _ _) hs).sq⟩, q _ H1 [(.ref a, .tuple ds)] W1 ?_⟩
  rintro c' T' σ' H' ρ' hK W'
  obtain ⟨b, ys, e, hs', h2'⟩ := dp_tup W'.dp
  cases e
  have hs2 : SqT c.K H' a ys := hK ▸ (ex_p (hide_ex _ _) hs').sq
  have hl := dpa_length h2'
  rw [List.length_map]
  refine ⟨fun i hi => ?_, fun i hi => ⟨ys, hs2, by omega⟩⟩
  obtain ⟨x, hx, dx⟩ := dpa_get h2' (List.getElem?_eq_getElem hi)
  refine ⟨⟨ys, x, hs2, hx⟩, fun y H2 hy => ?_⟩
  obtain ⟨rfl, hy⟩ := hy
  have := (hy ys hs2).symm.trans hx
  cases this
  exact ⟨_, hards_get hi, W'.push dx⟩
/-- lo, lo + 1, .. -/
def rngD (lo : Int) (n : Nat) : List PyData := (List.range n).map fun (i : Nat) => PyData.int (lo + (i : Int))
theorem rngD_len (lo : Int) (n : Nat) : (rngD lo n).length = n := by unfold rngD; rw [List.length_map, List.length_range]
theorem rngD_get {lo : Int} {n i : Nat} (h : i < n) : (rngD lo n)[i]? = some (.int (lo + (i : Int))) := by
  unfold rngD; rw [List.getElem?_map, List.getElem?_range h]; rfl
theorem walks_rng (K : PySem.W.Frag) (lo : Int) (n : Nat) : Walks K (Itr lo n) [] (hards (rngD lo n)) := fun c T σ H ρ hK W => by
  rw [List.length_map, rngD_len]
  refine ⟨fun i hi => ⟨hi, fun x H' hy => ?_⟩, fun i hi => hi⟩
  obtain ⟨rfl, rfl⟩ := hy
  exact ⟨.hard (.int (lo + (i : Int))), by rw [List.getElem?_map, rngD_get hi]; rfl, W.push (.int _)⟩
theorem ei_rng1 {n : Int} (h : Ed c ρ te (.int n) ρ1) (hn : -4000000000 ≤ n ∧ n ≤ 4000000000) : Ei c ρ (iRng1 (tCons te tNil)) (hards (rngD 0 n.toNat)) ρ1 := fun T σ H W R q => h T σ H W _ fun v H1 W1 =>
  ⟨n, by rw [dp_int W1.dp], by omega, by omega, q _ H1 [] W1.pop (walks_rng _ _ _)⟩
theorem ei_rng2 {lo n : Int} (h : Ed c ρ te (.int lo) ρ1) (h2 : Ed c ρ1 tb (.int n) ρ2) (hn : (-4000000000 ≤ lo ∧ lo ≤ 4000000000) ∧ -4000000000 ≤ n ∧ n ≤ 4000000000) : Ei c ρ (iRng2 (tCons te (tCons tb tNil))) (hards (rngD lo (n - lo).toNat)) ρ2 := fun T σ H W R q => h T σ H W _ fun v H1 W1 => h2 _ σ H1 W1 _ fun w H2 W2 =>
  ⟨lo, n, by rw [dp_int W2.pop.dp, dp_int W2.dp], ⟨by omega, by omega, by omega, by omega⟩, q _ H2 [] W2.pop.pop (walks_rng _ _ _)⟩
/-- pairs of place and item -/
def enumD (ds : List PyData) : List Itm := (ds.zipIdx).map fun p => .soft [.int (p.2 : Int), p.1]
theorem enumD_len (ds : List PyData) : (enumD ds).length = ds.length := by unfold enumD; rw [List.length_map, List.length_zipIdx]
theorem enumD_get {ds : List PyData} {i : Nat} {d : PyData} (h : ds[i]? = some d) : (enumD ds)[i]? = some (.soft [.int (i : Int), d]) := by
  unfold enumD; rw [List.getElem?_map, List.getElem?_zipIdx, h]; simp
theorem ei_enum {ds : List PyData} (h : Ed c ρ te (.list ds) ρ1) : Ei c ρ (iEnum c.K (tCons te tNil)) (enumD ds) ρ1 := fun T σ H W R q => h T σ H W _ fun v H1 W1 => by
  obtain ⟨a, xs, rfl, hs, h2⟩ := dp_lst W1.dp
  refine ⟨a, xs, rfl, ex_l (hide_ex _ _) hs, q _ H1 [(.ref a, .list ds)] W1 ?_⟩
  rintro c' T' σ' H' ρ' hK W'
  obtain ⟨b, ys, e, hs', h2'⟩ := dp_lst W'.dp
  cases e
  have hs2 : SqL c.K H' a ys := hK ▸ ex_l (hide_ex _ _) hs'
  have hl := dpa_length h2'
  rw [enumD_len]
  refine ⟨fun i hi => ?_, fun i hi => ⟨ys, hs2, by omega⟩⟩
  obtain ⟨x, hx, dx⟩ := dpa_get h2' (List.getElem?_eq_getElem hi)
  refine ⟨⟨ys, x, hs2, hx⟩, fun y H2 hy => ?_⟩
  obtain ⟨p, z, rfl, hp, rfl, hy⟩ := hy
  have ez := (hy ys hs2).symm.trans hx
  rw [Option.some.inj ez]
  have W2 := W'.grow (Ex.new (o := .tup [.int (i : Nat), x]) hp)
  have e2 : Ex (hide (hid c' ρ') H') (hide (hid c' ρ') (upd H' p (.tup [.int (i : Nat), x]))) := hide_mono fun a o n h => ⟨n, Ex.new hp a o h⟩
  exact ⟨_, enumD_get (List.getElem?_eq_getElem hi), p, [.int (i : Nat), x], rfl, .inl (.inl upd_same), rfl, (W2.push (dpm e2 dx)).push (.int _)⟩
def zipD (ds es : List PyData) : List Itm := List.zipWith (fun d e => .soft [d, e]) ds es
theorem zipD_len (ds es : List PyData) : (zipD ds es).length = min ds.length es.length := by unfold zipD; rw [List.length_zipWith]
theorem zipD_get {ds es : List PyData} {i : Nat} {d e : PyData} (h : ds[i]? = some d) (h2 : es[i]? = some e) : (zipD ds es)[i]? = some (.soft [d, e]) := by
  unfold zipD; rw [List.getElem?_zipWith, h, h2]
theorem walks_zip {K : PySem.W.Frag} {a b : Addr} {ds es : List PyData} : Walks K (Itz K a b) [(.ref b, .list es), (.ref a, .list ds)] (zipD ds es) := fun c' T' σ' H' ρ' hK W' => by
  obtain ⟨b', zs, e, hz, h3⟩ := dp_lst W'.dp
  cases e
  obtain ⟨a', ys, e, hs', h2'⟩ := dp_lst W'.pop.dp
  cases e
  have hs2 : SqL K H' a ys := hK ▸ ex_l (hide_ex _ _) hs'
  have hz2 : SqL K H' b zs := hK ▸ ex_l (hide_ex _ _) hz
  have hl := dpa_length h2'
  have hl3 := dpa_length h3
  rw [zipD_len]
  refine ⟨fun i hi => ?_, fun i hi => ⟨ys, zs, hs2, hz2, by omega⟩⟩
  obtain ⟨x, hx, dx⟩ := dpa_get h2' (List.getElem?_eq_getElem (show i < ds.length by omega))
  obtain ⟨y, hy, dy⟩ := dpa_get h3 (List.getElem?_eq_getElem (show i < es.length by omega))
  refine ⟨⟨ys, zs, x, y, hs2, hz2, hx, hy⟩, fun v H2 hv => ?_⟩
  obtain ⟨p, x', y', rfl, hp, rfl, q1, q2⟩ := hv
  have e1 := (q1 ys hs2).symm.trans hx
  have e2' := (q2 zs hz2).symm.trans hy
  rw [Option.some.inj e1, Option.some.inj e2']
  have W2 := W'.grow (Ex.new (o := .tup [x, y]) hp)
  have e2 : Ex (hide (hid c' ρ') H') (hide (hid c' ρ') (upd H' p (.tup [x, y]))) := hide_mono fun a o n h => ⟨n, Ex.new hp a o h⟩
  exact ⟨_, zipD_get (List.getElem?_eq_getElem (show i < ds.length by omega)) (List.getElem?_eq_getElem (show i < es.length by omega)), p, [x, y], rfl, .inl (.inl upd_same), rfl, (W2.push (dpm e2 dy)).push (dpm e2 dx)⟩
theorem walks_zipT {K : PySem.W.Frag} {a b : Addr} {ds es : List PyData} : Walks K (ItzT K a b) [(.ref b, .tuple es), (.ref a, .tuple ds)] (zipD ds es) := fun c' T' σ' H' ρ' hK W' => by
  obtain ⟨b', zs, e, hz, h3⟩ := dp_tup W'.dp
  cases e
  obtain ⟨a', ys, e, hs', h2'⟩ := dp_tup W'.pop.dp
  cases e
  have hs2 : SqT K H' a ys := hK ▸ (ex_p (hide_ex _ _) hs').sq
  have hz2 : SqT K H' b zs := hK ▸ (ex_p (hide_ex _ _) hz).sq
  have hl := dpa_length h2'
  have hl3 := dpa_length h3
  rw [zipD_len]
  refine ⟨fun i hi => ?_, fun i hi => ⟨ys, zs, hs2, hz2, by omega⟩⟩
  obtain ⟨x, hx, dx⟩ := dpa_get h2' (List.getElem?_eq_getElem (show i < ds.length by omega))
  obtain ⟨y, hy, dy⟩ := dpa_get h3 (List.getElem?_eq_getElem (show i < es.length by omega))
  refine ⟨⟨ys, zs, x, y, hs2, hz2, hx, hy⟩, fun v H2 hv => ?_⟩
  obtain ⟨p, x', y', rfl, hp, rfl, q1, q2⟩ := hv
  have e1 := (q1 ys hs2).symm.trans hx
  have e2' := (q2 zs hz2).symm.trans hy
  rw [Option.some.inj e1, Option.some.inj e2']
  have W2 := W'.grow (Ex.new (o := .tup [x, y]) hp)
  have e2 : Ex (hide (hid c' ρ') H') (hide (hid c' ρ') (upd H' p (.tup [x, y]))) := hide_mono fun a o n h => ⟨n, Ex.new hp a o h⟩
  exact ⟨_, zipD_get (List.getElem?_eq_getElem (show i < ds.length by omega)) (List.getElem?_eq_getElem (show i < es.length by omega)), p, [x, y], rfl, .inl (.inl upd_same), rfl, (W2.push (dpm e2 dy)).push (dpm e2 dx)⟩
theorem ei_zip {ds es : List PyData} (h : Ed c ρ te (.list ds) ρ1) (h2 : Ed c ρ1 tb (.list es) ρ2) : Ei c ρ (iZipA c.K (tCons te (tCons tb tNil))) (zipD ds es) ρ2 := fun T σ H W R q => h T σ H W _ fun v H1 W1 => h2 _ σ H1 W1 _ fun w H2 W2 => by
  obtain ⟨a, xs, rfl, hs, ha⟩ := dp_lst W2.pop.dp
  obtain ⟨b, ys, rfl, hs2, hb⟩ := dp_lst W2.dp
  exact ⟨a, b, xs, ys, rfl, .inl ⟨ex_l (hide_ex _ _) hs, ex_l (hide_ex _ _) hs2, q _ H2 [(.ref b, .list es), (.ref a, .list ds)] W2 walks_zip⟩⟩
theorem ei_zipT {ds es : List PyData} (h : Ed c ρ te (.tuple ds) ρ1) (h2 : Ed c ρ1 tb (.tuple es) ρ2) : Ei c ρ (iZipA c.K (tCons te (tCons tb tNil))) (zipD ds es) ρ2 := fun T σ H W R q => h T σ H W _ fun v H1 W1 => h2 _ σ H1 W1 _ fun w H2 W2 => by
  obtain ⟨a, xs, rfl, hs, ha⟩ := dp_tup W2.pop.dp
  obtain ⟨b, ys, rfl, hs2, hb⟩ := dp_tup W2.dp
  exact ⟨a, b, xs, ys, rfl,   .inr ⟨(ex_p (hide_ex _ _) hs).sq, (ex_p (hide_ex _ _) hs2).sq, q _ H2 [(.ref b, .tuple es), (.ref a, .tuple ds)] W2 walks_zipT⟩⟩
/-! ### targets -/
theorem wipe_set {σ : L2.St} {x : Option V} {j : Nat} : ∀ {ws : List Nat}, j ∈ ws → L2.wipe (σ.set j x) ws = L2.wipe σ ws
  | w :: ws, h => by
    show (L2.wipe (σ.set j x) ws).set w none = (L2.wipe σ ws).set w none
    by_cases m : j ∈ ws
    · rw [wipe_set m]
    · have e : j = w := by
        rcases List.mem_cons.mp h with h | h
        · exact h
        · exact absurd h m
      subst e
      apply List.ext_getElem?
      intro k
      by_cases q : j = k
      · subst q
        rw [List.getElem?_set, List.getElem?_set, L2.wipe_length, L2.wipe_length, List.length_set, if_pos rfl, if_pos rfl]
      · rw [List.getElem?_set_ne q, List.getElem?_set_ne q]
        by_cases m2 : k ∈ ws
        · have w0 : ∀ {τ : L2.St} {ws : List Nat}, k ∈ ws → (L2.wipe τ ws)[k]? = (τ.map fun _ => (none : Option V))[k]? := fun {τ ws} hm => by
            induction ws with
            | nil => cases hm
            | cons y ys ih =>
              show ((L2.wipe τ ys).set y none)[k]? = _
              by_cases qq : y = k
              · subst qq
                rw [List.getElem?_set, L2.wipe_length, List.getElem?_map]
                simp
                by_cases hk : y < τ.length
                · simp [hk]
                · simp [hk]
              · rw [List.getElem?_set_ne qq]
                exact ih (by
                  rcases List.mem_cons.mp hm with hm | hm
                  · exact absurd hm.symm qq
                  · exact hm)
          rw [w0 m2, w0 m2, List.getElem?_map, List.getElem?_map, List.getElem?_set_ne q]
        · rw [wipe_get m2, wipe_get m2, List.getElem?_set_ne q]
theorem eg_name {j : Nat} {ws : List Nat} (h : j ∈ ws) : Eg c (gName j) (.hard d) ρ (ρ.set j (.da d)) ws := fun T σ H v W Q q => q _ H (Wd.setD (Wd.pop W) j (Wd.dp W)) (wipe_set h)
/-- several targets -/
def Egs (c : Cz) (g : TGs) (ds : List PyData) (ρ ρ' : List Sl) (ws : List Nat) : Prop := ∀ (T : Tm) (σ : L2.St) (H : Hp) (vs : List V), Wd c T H σ ρ → DzAll c.K (hide (hid c ρ) H) vs ds → ∀ Q : L2.St → Hp → Prop, (∀ σ' H', Wd c T H' σ' ρ' → L2.wipe σ' ws = L2.wipe σ ws → Q σ' H') → g vs σ H Q
theorem egs_nil {ws : List Nat} : Egs c gNil [] ρ ρ ws := fun T σ H vs W a Q q => by
  cases a
  exact ⟨rfl, q σ H W rfl⟩
/-- the values of the rest are kept as temporary data -/
theorem Wd.pushAll {vs : List V} {ds : List PyData} (W : Wd c T H σ ρ) (h : DzAll c.K (hide (hid c ρ) H) vs ds) : Wd c (vs.zip ds ++ T) H σ ρ := by
  induction ds generalizing vs with
  | nil => cases h; exact W
  | cons d ds ih =>
    cases h with
    | cons a b =>
      show Wd c ((_, d) :: (_ ++ T)) H σ ρ
      exact (ih b).push a
theorem Wd.allOf {ds : List PyData} : ∀ {vs : List V}, vs.length = ds.length → Wd c (vs.zip ds ++ T) H σ ρ → DzAll c.K (hide (hid c ρ) H) vs ds := by
  induction ds with
  | nil => intro vs h W; cases vs with
    | nil => exact .nil
    | cons _ _ => simp at h
  | cons d ds ih =>
    intro vs h W
    cases vs with
    | nil => simp at h
    | cons v vs =>
      exact .cons (W.tmp (v, d) (by simp)) (ih (by simpa using h) W.pop)
theorem egs_cons {g : TG} {gs : TGs} {ds : List PyData} {ws : List Nat} (h1 : Eg c g (.hard d) ρ ρ1 ws) (h2 : Egs c gs ds ρ1 ρ2 ws) : Egs c (gCons g gs) (d :: ds) ρ ρ2 ws := fun T σ H vs W a Q q => by
  cases a with
  | cons a1 a2 =>
    refine ⟨_, _, rfl, h1 _ σ H _ ((W.pushAll a2).push a1) _ fun σ1 H1 W1 e1 => ?_⟩
    have a3 := Wd.allOf (dpa_length a2) W1
    exact h2 T σ1 H1 _ (W1.tmps fun p hp => List.mem_append_right _ hp) a3 Q fun σ2 H2 W2 e2 => q σ2 H2 W2 (e2.trans e1)
theorem eg_tup {gs : TGs} {ds : List PyData} {n : Nat} {ws : List Nat} (h : Egs c gs ds ρ ρ1 ws) (hn : ds.length = n := by rfl) : Eg c (gTup c.K n gs) (.hard (.tuple ds)) ρ ρ1 ws := fun T σ H v W Q q => by
  obtain ⟨a, xs, rfl, hs, h2⟩ := dp_tup (Wd.dp W)
  exact ⟨a, xs, rfl, (ex_p (hide_ex _ _) hs).sq, by rw [dpa_length h2, hn], h T σ H xs (Wd.pop W) h2 Q q⟩
theorem eg_soft {gs : TGs} {ds : List PyData} {n : Nat} {ws : List Nat} (h : Egs c gs ds ρ ρ1 ws) (hn : ds.length = n := by rfl) : Eg c (gTup c.K n gs) (.soft ds) ρ ρ1 ws := fun T σ H v W Q q => by
  obtain ⟨a, xs, rfl, hs, hl, W⟩ := W
  exact ⟨a, xs, rfl, hs, by rw [hl, hn], h T σ H xs (W.tmps fun p hp => List.mem_append_right _ hp) (Wd.allOf hl W) Q q⟩
/-! ### list comprehensions -/
abbrev Cz.at (c : Cz) (S : List Addr) (B : Hp) : Cz := { c with S0 := S, B := B }
theorem Wd.pin {p : Addr} {u : HO} (W : Wd (c.hidden p) T H σ ρ) (h : H p = some u) (hB : c.B p = none) (hs : ∀ a ∈ c.M, a ∈ c.S0) (h0 : p ∉ c.S0) : Wd (c.at (p :: c.S0) (upd c.B p u)) T H σ ρ := by
  have hn := W.notin h0 hs
  refine ⟨W.len, fun a o n e => ?_, W.sub, W.dom, W.tmp, W.inj, W.ap, fun i s e => ?_⟩
  · by_cases q : a = p
    · rw [q] at e ⊢
      have e : upd c.B p u p = some o := e
      rw [upd_same] at e
      rw [h, e]
    · have e : upd c.B p u a = some o := e
      rw [upd_ne q] at e
      exact W.keep a o n e
  · have ok := W.ok i s e
    cases s with
    | mu l a o =>
      obtain ⟨x, y, z⟩ := ok
      refine ⟨x, ?_, z⟩
      cases l with
      | true =>
        rw [if_pos rfl] at y ⊢
        have na : a ≠ p := fun q => W.ap i a o e (by rw [q]; exact List.mem_cons_self ..)
        show upd c.B p u a = none
        rw [upd_ne na]; exact y
      | false => rw [if_neg (by decide)] at y ⊢; exact y
    | _ => exact ok
theorem Wd.unpin {p : Addr} {u : HO} (W : Wd (c.at (p :: c.S0) (upd c.B p u)) T H σ ρ) (hB : c.B p = none) (hM : p ∉ c.M) : H p = some u ∧ Wd (c.hidden p) T H σ ρ := by
  refine ⟨W.keep p u hM upd_same, W.len, fun a o n e => W.keep a o n ?_, W.sub, W.dom, W.tmp, W.inj, W.ap, fun i s e => ?_⟩
  · show upd c.B p u a = some o
    rw [upd_ne (fun q => by
      have e : c.B a = some o := e
      rw [q, hB] at e; cases e)]
    exact e
  · have ok := W.ok i s e
    cases s with
    | mu l a o =>
      obtain ⟨x, y, z⟩ := ok
      refine ⟨x, ?_, z⟩
      cases l with
      | true =>
        rw [if_pos rfl] at y ⊢
        have na : a ≠ p := fun q => W.ap i a o e (by rw [q]; exact List.mem_cons_self ..)
        have y : upd c.B p u a = none := y
        rw [upd_ne na] at y; exact y
      | false => rw [if_neg (by decide)] at y ⊢; exact y
    | _ => exact ok
/-- what is hidden changes -/
theorem Wd.updHid {p : Addr} {u : HO} (W : Wd (c.hidden p) T H σ ρ) (hB : c.B p = none) (hn : p ∉ hid c ρ) : Wd (c.hidden p) T (upd H p u) σ ρ := by
  have e2 : Ex (hide (hid (c.hidden p) ρ) H) (hide (hid (c.hidden p) ρ) (upd H p u)) := hide_mono fun b o n e => ⟨n, by
    rw [upd_ne (fun q => n (by rw [q]; exact List.mem_cons_self ..))]; exact e⟩
  refine ⟨W.len, fun a o n e => ?_, W.sub, fun a m => ?_, fun q hq => dpm e2 (W.tmp q hq), W.inj, W.ap, fun i s e => ?_⟩
  · rw [upd_ne (fun q => by
      have e : c.B a = some o := e
      rw [q, hB] at e; cases e)]
    exact W.keep a o n e
  · by_cases q : a = p
    · rw [q]; exact ⟨u, upd_same⟩
    · rw [upd_ne q]; exact W.dom a m
  · refine slOk_mono e2 (fun a ea => upd_ne fun q => hn ?_) (W.ok i s e)
    cases s with
    | mu l b o => cases ea; exact List.mem_append_right _ (mem_muts.mpr ⟨i, l, o, q ▸ e⟩)
    | _ => cases ea
theorem wipe_wipe {σ : L2.St} : ∀ {vs : List Nat}, L2.wipe (L2.wipe σ vs) vs = L2.wipe σ vs := fun {vs} => by
  apply List.ext_getElem?
  intro k
  by_cases m : k ∈ vs
  · have w0 : ∀ {τ : L2.St} {ws : List Nat}, k ∈ ws → (L2.wipe τ ws)[k]? = (τ.map fun _ => (none : Option V))[k]? := fun {τ ws} hm => by
      induction ws with
      | nil => cases hm
      | cons y ys ih =>
        show ((L2.wipe τ ys).set y none)[k]? = _
        by_cases qq : y = k
        · subst qq
          rw [List.getElem?_set, L2.wipe_length, List.getElem?_map]
          simp
          by_cases hk : y < τ.length
          · simp [hk]
          · simp [hk]
        · rw [List.getElem?_set_ne qq]
          exact ih (by
            rcases List.mem_cons.mp hm with hm | hm
            · exact absurd hm.symm qq
            · exact hm)
    rw [w0 m, w0 m, List.getElem?_map, List.getElem?_map]
    by_cases hk : k < σ.length
    · rw [List.getElem?_eq_getElem hk, List.getElem?_eq_getElem (by rw [L2.wipe_length]; exact hk)]
      rfl
    · have h1 : (L2.wipe σ vs)[k]? = none := List.getElem?_eq_none_iff.mpr (by rw [L2.wipe_length]; omega)
      have h2 : σ[k]? = none := List.getElem?_eq_none_iff.mpr (by omega)
      rw [h1, h2]
  · rw [wipe_get m]
/-- by the turn: what the frame holds, what the new list holds -/
theorem el_lc {wi : TI} {g : TG} {tt : TT} {vs : List Nat} {ds : List Itm} (h : Ei c ρ wi ds ρ1) (I : Nat → List Sl) (acc : Nat → List PyData) (hI : I 0 = ρ1) (hacc : acc 0 = []) (hsz : ds.length ≤ 100000)
    (hvs : ∀ i, i ≤ ds.length → ∀ j ∈ vs, (I i)[j]? = some .no)
    (turn : ∀ (S : List Addr) (B : Hp) (i : Nat) (d : Itm), ds[i]? = some d → ∃ (b : Bool) (ρa ρb : List Sl), Eg (c.at S B) g d (I i) ρa vs ∧ Et (c.at S B) ρa tt b ρb ∧
      (b = true → ∃ d' ρc, Ed (c.at S B) ρb te d' ρc ∧ acc (i + 1) = acc i ++ [d'] ∧ ∀ T H σ, Wd (c.at S B) T H σ ρc → Wd (c.at S B) T H (L2.wipe σ vs) (I (i + 1))) ∧
      (b = false → acc (i + 1) = acc i ∧ ∀ T H σ, Wd (c.at S B) T H σ ρb → Wd (c.at S B) T H (L2.wipe σ vs) (I (i + 1)))) : EdL c ρ (tLc wi g tt te vs) (acc ds.length) (I ds.length) := fun T σ H W Q q =>
  h T σ H W _ fun J H1 T1 W1 hw D hD => by
    have hB := W1.freshB hD
    have hsub := W1.sub
    have nS : D ∉ c.S0 := fun m => W1.fresh hD (List.mem_append_left _ m)
    have nM : D ∉ c.M := fun m => nS (hsub D m)
    obtain ⟨_, hDn, mo0, Wh⟩ := el_new W1 (.nil) hD
    have hvs0 := hvs 0 (Nat.zero_le _)
    rw [hI] at hvs0
    have eP : ∀ {i : Nat} {H2 : Hp}, Wd (c.hidden D) (T1 ++ T) H2 (L2.wipe σ vs) (I i) → D ∉ hid c (I i) := fun W2 => W2.notin nS hsub
    have accl : ∀ i, i ≤ ds.length → (acc i).length ≤ i := fun i => by
      induction i with
      | zero => intro _; rw [hacc]; exact Nat.le_refl _
      | succ i ih =>
        intro hi
        obtain ⟨b, _, _, _, _, g3, g4⟩ := turn [] (fun _ => none) i _ (List.getElem?_eq_getElem (show i < ds.length by omega))
        have := ih (by omega)
        cases b with
        | true =>
          obtain ⟨d', _, _, e, _⟩ := g3 rfl
          rw [e, List.length_append]; show _ + 1 ≤ _; omega
        | false => rw [(g4 rfl).1]; omega
    refine ⟨fun i m H2 => i + m = ds.length ∧ Wd (c.hidden D) (T1 ++ T) H2 (L2.wipe σ vs) (I i) ∧ MoOk c.K (D :: hid c (I i)) H2 D (.lst (acc i)), ⟨ds.length, by omega, by rw [hI]; exact Wh.wipe hvs0, by rw [hI, hacc]; exact mo0⟩, fun i m H2 ⟨hm, W2, mo⟩ => ?_⟩
    by_cases hi : i < ds.length
    · obtain ⟨xs, hxs, dxs⟩ := mo
      have lx := dpa_length dxs
      have la := accl i (by omega)
      have W2a : Wd (c.at (D :: c.S0) (upd c.B D (.lst xs))) (T1 ++ T) H2 (L2.wipe σ vs) (I i) := W2.pin hxs hB hsub nS
      have W2b : Wd (c.at (D :: c.S0) (upd c.B D (.lst xs))) (xs.zip (acc i) ++ (T1 ++ T)) H2 (L2.wipe σ vs) (I i) := W2a.pushAll dxs
      have W2c : Wd (c.at (D :: c.S0) (upd c.B D (.lst xs))) (T1 ++ (xs.zip (acc i) ++ T)) H2 (L2.wipe σ vs) (I i) := W2b.tmps fun p hp => by
        simp only [List.mem_append] at hp ⊢
        rcases hp with hp | hp | hp
        · exact .inr (.inl hp)
        · exact .inl hp
        · exact .inr (.inr hp)
      have hwk := hw (c.at (D :: c.S0) (upd c.B D (.lst xs))) _ _ _ _ rfl W2c
      refine .inr ⟨(hwk.1 i hi).1, fun H3 => Wd (c.hidden D) (T1 ++ T) H3 (L2.wipe σ vs) (I (i + 1)) ∧ MoOk c.K (D :: hid c (I (i + 1))) H3 D (.lst (acc (i + 1))), fun H3 h3 => ⟨m - 1, by omega, by omega, h3.1, h3.2⟩, fun x H3 hy => ?_⟩
      obtain ⟨d, hd, W3⟩ := (hwk.1 i hi).2 x H3 hy
      obtain ⟨b, ρa, ρb, g1, g2, g3, g4⟩ := turn (D :: c.S0) (upd c.B D (.lst xs)) i d hd
      refine g1 _ _ _ _ W3 _ fun σ2 H4 W4 ew => ⟨by rw [ew, wipe_wipe], g2 _ σ2 H4 W4 _ fun H5 W5 => ?_⟩
      rw [wipe_wipe] at ew
      cases b with
      | true =>
        rw [if_pos rfl]
        obtain ⟨d', ρc, g5, ea, wk⟩ := g3 rfl
        refine g5 _ σ2 H5 W5 _ fun y H6 W6 => ?_
        have W7 := wk _ _ _ W6
        rw [ew] at W7
        obtain ⟨hx6, W8⟩ := W7.unpin hB nM
        have hn8 := W8.notin nS hsub
        refine ⟨xs, hx6, Nat.lt_of_lt_of_le (show xs.length < 100000 by omega) (by decide), ?_, ?_⟩
        · refine (W8.updHid hB hn8).tmps fun p hp => List.mem_cons_of_mem _ ?_
          simp only [List.mem_append] at hp ⊢
          rcases hp with hp | hp
          · exact .inl hp
          · exact .inr (.inr hp)
        · refine ⟨xs ++ [y], upd_same, ?_⟩
          rw [ea]
          have W9 := W8.updHid (u := .lst (xs ++ [y])) hB hn8
          have a1 : DzAll c.K (hide (hid (c.hidden D) (I (i + 1))) (upd H6 D (.lst (xs ++ [y])))) xs (acc i) := Wd.allOf (T := (y, d') :: (T1 ++ T)) lx (W9.tmps fun p hp => by
            simp only [List.mem_append, List.mem_cons] at hp ⊢
            rcases hp with hp | hp | hp | hp
            · exact .inr (.inr (.inl hp))
            · exact .inl hp
            · exact .inr (.inl hp)
            · exact .inr (.inr (.inr hp)))
          exact dpa_append a1 (.cons (W9.tmp (y, d') (List.mem_cons_self ..)) .nil)
      | false =>
        rw [if_neg (by decide)]
        obtain ⟨ea, wk⟩ := g4 rfl
        have W7 := wk _ _ _ W5
        rw [ew] at W7
        obtain ⟨hx6, W8⟩ := W7.unpin hB nM
        refine ⟨W8.tmps fun p hp => ?_, xs, hx6, ?_⟩
        · simp only [List.mem_append] at hp ⊢
          rcases hp with hp | hp
          · exact .inl hp
          · exact .inr (.inr hp)
        · rw [ea]
          exact Wd.allOf (T := T1 ++ T) lx (W8.tmps fun p hp => by
            simp only [List.mem_append, List.mem_cons] at hp ⊢
            rcases hp with hp | hp | hp
            · exact .inr (.inl hp)
            · exact .inl hp
            · exact .inr (.inr hp))
    · have ei : i = ds.length := by omega
      subst ei
      refine .inl ⟨(hw (c.hidden D) T (L2.wipe σ vs) H2 (I ds.length) rfl W2).2 _ (Nat.le_refl _), ?_⟩
      have W4 : Wd (c.hidden D) T H2 (L2.wipe σ vs) (I ds.length) := W2.tmps fun p hp => List.mem_append_right _ hp
      exact q D H2 hB (eP W2) mo (W4.unwipe (hvs _ (Nat.le_refl _)))
end
end Nz

namespace Nz
open PySem PySem.Spec PyProof.Rows L2 RZ

def wipeS (ρ : List Sl) : List Nat → List Sl
  | [] => ρ
  | v :: vs => (wipeS ρ vs).set v .no
theorem Wd.wipeS {c : Cz} {T : Tm} {H : Hp} {σ : L2.St} {ρ : List Sl} (W : Wd c T H σ ρ) : ∀ (vs : List Nat), Wd c T H (L2.wipe σ vs) (Nz.wipeS ρ vs)
  | [] => W
  | v :: vs => (Wd.wipeS W vs).setN v none .no rfl trivial
section
variable {c : Cz} {ρ ρ1 ρ2 ρ3 : List Sl} {ta tb te tx : TE} {t u : TT} {d d1 d2 d3 : PyData} {T : Tm} {H H' : Hp} {σ : L2.St}
/-- items xs, those with p, made into eb -/
theorem el_lcP {α : Type} {wi : TI} {g : TG} {tt : TT} {vs : List Nat} (xs : List α) (ea : α → Itm) (p : α → Bool) (eb : α → PyData) (h : Ei c ρ wi (xs.map ea) ρ1) (hsz : xs.length ≤ 100000) (hvs : ∀ j ∈ vs, ρ1[j]? = some .no)
    (turn : ∀ (S : List Addr) (B : Hp) (x : α), x ∈ xs → ∃ ρa, Nz.wipeS ρa vs = ρ1 ∧ Eg (c.at S B) g (ea x) ρ1 ρa vs ∧ Et (c.at S B) ρa tt (p x) ρa ∧ (p x = true → Ed (c.at S B) ρa te (eb x) ρa)) :
    EdL c ρ (tLc wi g tt te vs) ((xs.filter p).map eb) ρ1 := by
  have key := el_lc (c := c) (tt := tt) (te := te) (vs := vs) h (fun _ => ρ1) (fun i => ((xs.take i).filter p).map eb) rfl (by simp) (by rw [List.length_map]; exact hsz) (fun _ _ => hvs) (fun S B i d hd => by
    rw [List.getElem?_map] at hd
    cases hx : xs[i]? with
    | none => rw [hx] at hd; cases hd
    | some x =>
      rw [hx] at hd
      have hd : ea x = d := Option.some.inj hd
      subst hd
      obtain ⟨ρa, hw, g1, g2, g3⟩ := turn S B x (List.mem_of_getElem? hx)
      refine ⟨p x, ρa, ρa, g1, g2, fun hp => ⟨eb x, ρa, g3 hp, ?_, fun T H σ W => hw ▸ W.wipeS vs⟩, fun hp => ⟨?_, fun T H σ W => hw ▸ W.wipeS vs⟩⟩
      · rw [List.take_add_one, hx]
        simp [hp]
      · rw [List.take_add_one, hx]
        simp [hp])
  have e : (List.map eb (List.filter p (List.take (List.map ea xs).length xs))) = (xs.filter p).map eb := by
    rw [List.length_map, List.take_length]
  rw [e] at key
  exact key
/-- all items -/
theorem el_lcA {α : Type} {wi : TI} {g : TG} {vs : List Nat} (xs : List α) (ea : α → Itm) (eb : α → PyData) (h : Ei c ρ wi (xs.map ea) ρ1) (hsz : xs.length ≤ 100000) (hvs : ∀ j ∈ vs, ρ1[j]? = some .no)
    (turn : ∀ (S : List Addr) (B : Hp) (x : α), x ∈ xs → ∃ ρa, Nz.wipeS ρa vs = ρ1 ∧ Eg (c.at S B) g (ea x) ρ1 ρa vs ∧ Ed (c.at S B) ρa te (eb x) ρa) :
    EdL c ρ (tLc wi g tYes te vs) (xs.map eb) ρ1 := by
  have key := el_lcP (c := c) (tt := tYes) (te := te) (vs := vs) xs ea (fun _ => true) eb h hsz hvs (fun S B x hx => by
    obtain ⟨ρa, hw, g1, g2⟩ := turn S B x hx
    exact ⟨ρa, hw, g1, fun T σ H W Q q => q H W, fun _ => g2⟩)
  rw [List.filter_eq_self.mpr (fun _ _ => rfl)] at key
  exact key
theorem ei_rng {n : Int} (h : Ed c ρ te (.int n) ρ1) (hn : -4000000000 ≤ n ∧ n ≤ 4000000000) : Ei c ρ (iRng1 (tCons te tNil)) ((List.range n.toNat).map fun (i : Nat) => Itm.hard (PyData.int (i : Int))) ρ1 := by
  have := ei_rng1 h hn
  unfold hards rngD at this
  simp only [Int.zero_add, List.map_map] at this
  exact this

/-! ### statements -/
def Sk (c : Cz) (T : Tm) (ρ : List Sl) (nx : L2.St → Hp → Prop) : Prop := ∀ σ H, Wd c T H σ ρ → nx σ H
abbrev Ss (c : Cz) (T : Tm) (ρ : List Sl) (ts : TS) (D : Ends) : Prop := Sk c T ρ (ts D)
theorem Sk.more {T' : Tm} {nx : L2.St → Hp → Prop} (h : Sk c T ρ nx) (hT : ∀ p ∈ T, p ∈ T') : Sk c T' ρ nx := fun σ H W => h σ H (W.tmps hT)
def Le (ρ ρ' : List Sl) : Prop := ρ.length = ρ'.length ∧ ∀ (i : Nat) (s s' : Sl), ρ[i]? = some s → ρ'[i]? = some s' → slLe s s'
theorem slLe_refl (s : Sl) : slLe s s := by cases s <;> simp [slLe, MoLe]
theorem Le.refl (ρ : List Sl) : Le ρ ρ := ⟨rfl, fun i s s' h h' => by rw [h] at h'; cases h'; exact slLe_refl s⟩
theorem le_nil : Le [] [] := Le.refl _
theorem le_cons {s s' : Sl} {ρ ρ' : List Sl} (h : slLe s s') (t : Le ρ ρ') : Le (s :: ρ) (s' :: ρ') := ⟨by rw [List.length_cons, List.length_cons, t.1], fun i a b h1 h2 => by
  cases i with
  | zero => cases h1; cases h2; exact h
  | succ i => exact t.2 i a b (by simpa using h1) (by simpa using h2)⟩
theorem le_same {s : Sl} {ρ ρ' : List Sl} (t : Le ρ ρ') : Le (s :: ρ) (s :: ρ') := le_cons (slLe_refl s) t
theorem le_no {s : Sl} {ρ ρ' : List Sl} (t : Le ρ ρ') : Le (s :: ρ) (.no :: ρ') := le_cons (by cases s <;> exact trivial) t
theorem le_da {ρ ρ' : List Sl} (e : d = d1) (t : Le ρ ρ') : Le (.da d :: ρ) (.da d1 :: ρ') := le_cons e t
theorem le_frz {ρ ρ' : List Sl} {a : Addr} {ds : List PyData} (t : Le ρ ρ') : Le (.mu true a (.lst ds) :: ρ) (.da (.list ds) :: ρ') := le_cons ⟨rfl, rfl⟩ t
theorem le_mu {ρ ρ' : List Sl} {l : Bool} {a : Addr} {o o' : MO} (e : o = o') (t : Le ρ ρ') : Le (.mu l a o :: ρ) (.mu l a o' :: ρ') := le_cons ⟨rfl, rfl, .inl e⟩ t
theorem le_any {ρ ρ' : List Sl} {l : Bool} {a : Addr} {ds : List PyData} {P : List PyData → Prop} (p : P ds) (t : Le ρ ρ') : Le (.mu l a (.lst ds) :: ρ) (.mu l a (.any P) :: ρ') := le_cons ⟨rfl, rfl, .inr ⟨ds, P, rfl, rfl, p⟩⟩ t
theorem Wd.le (W : Wd c T H σ ρ) (h : Le ρ ρ') : Wd c T H σ ρ' := W.weak h.1 h.2
theorem s_le {nx : L2.St → Hp → Prop} (h : Le ρ ρ1) (k : Sk c T ρ1 nx) : Sk c T ρ nx := fun σ H W => k σ H (W.le h)
theorem s_end (h : Le ρ ρ1) : Sk c T ρ (fun σ H => Wd c T H σ ρ1) := fun σ H W => W.le h
variable {D : Ends} {ts tu : TS} {g : TG} {nx bk ct : L2.St → Hp → Prop} {rt : VK}
theorem s_seq (h : Ss c T ρ ts { D with nx := tu D }) : Ss c T ρ (tSeq ts tu) D := h
theorem s_next (k : Sk c T ρ nx) : Ss c T ρ tNext ⟨nx, rt, bk, ct⟩ := k
theorem s_asgG {ws : List Nat} (h : Ed c ρ te d ρ1) (hg : Eg c g (.hard d) ρ1 ρ2 ws) (k : Sk c T ρ2 nx) : Ss c T ρ (tAsg te g) ⟨nx, rt, bk, ct⟩ := fun σ H W => h T σ H W _ fun v H1 W1 => hg T σ H1 v W1 _ fun σ2 H2 W2 _ => k σ2 H2 W2
theorem s_asg {i : Nat} (h : Ed c ρ te d ρ1) (k : Sk c T (ρ1.set i (.da d)) nx) : Ss c T ρ (tAsg te (gName i)) ⟨nx, rt, bk, ct⟩ := s_asgG (ws := [i]) h (eg_name (List.mem_cons_self ..)) k
/-- a new list that will change -/
theorem s_asgM {i : Nat} {ds : List PyData} (h : EdL c ρ te ds ρ1) (k : ∀ p, Sk c T (ρ1.set i (.mu true p (.lst ds))) nx) : Ss c T ρ (tAsg te (gName i)) ⟨nx, rt, bk, ct⟩ := fun σ H W =>
  h T σ H W _ fun p H1 hB hn mo W1 => k p _ _ (W1.setM W.sub i (by rw [if_pos rfl]; exact hB) hn mo)
/-- a, b = x, y -/
theorem s_par {i j : Nat} {x y : PyData} {tp : TA} (h : Ea c ρ tp [.dat x, .dat y] ρ1) (k : Sk c T ((ρ1.set i (.da x)).set j (.da y)) nx) : Ss c T ρ (tPar i j tp) ⟨nx, rt, bk, ct⟩ := fun σ H W => h T σ H W _ fun vs H1 a W1 => by
  obtain ⟨v, w, rfl, h1, h2⟩ := aa2 a
  refine ⟨v, w, rfl, ?_⟩
  have W2 := ((W1.push h2).push h1)
  have W3 := (W2.pop.push h1).setD i h1
  have W4 := W3.pop.setD j (W3.tmp (w, y) (by simp))
  exact k _ _ W4.pop
theorem s_aug {i : Nat} {f : Int → Int → Int} {a b : Int} (hx : ρ[i]? = some (.da (.int a))) (h : Ed c ρ te (.int b) ρ) (k : Sk c T (ρ.set i (.da (.int (f a b)))) nx) : Ss c T ρ (tAug i te (ipI f)) ⟨nx, rt, bk, ct⟩ := fun σ H W => by
  obtain ⟨v, e, dp⟩ := W.ok i _ hx
  refine ⟨v, e, h T σ H W _ fun w H1 W1 => ⟨a, b, dp_int dp, dp_int W1.dp, ?_⟩⟩
  exact k _ _ (W1.pop.setD i (.int _))
theorem s_drop (h : Ed c ρ te d ρ1) (k : Sk c T ρ1 nx) : Ss c T ρ (tDrop te) ⟨nx, rt, bk, ct⟩ := fun σ H W => h T σ H W _ fun v H1 W1 => k σ H1 W1.pop
theorem s_append {i : Nat} {l : Bool} {a : Addr} {ds : List PyData} (h : Ed c ρ te d ρ1) (h0 : ∃ l ds, ρ[i]? = some (.mu l a (.lst ds))) (ha : ρ1[i]? = some (.mu l a (.lst ds))) (hz : ds.length < 100000) (k : Sk c T (ρ1.set i (.mu l a (.lst (ds ++ [d])))) nx) :
    Ss c T ρ (tDrop (tBM c.K "list" rAppend (tVar i) (tCons te tNil))) ⟨nx, rt, bk, ct⟩ := fun σ H W => by
  obtain ⟨l0, o0, h0⟩ := h0
  obtain ⟨e0, e2, e3⟩ := W.ok i _ h0
  obtain ⟨ys, e7, _⟩ := e3
  have ty : tyV c.K "list" (.ref a) H := .inl ⟨rfl, ys, sq_of e7⟩
  refine ⟨.ref a, e0, ty, h T σ H W _ fun v H1 W1 => ?_⟩
  obtain ⟨_, _, xs, e4, e5⟩ := W1.ok i _ ha
  refine ⟨a, xs, v, rfl, rfl, e4, by rw [dpa_length e5]; exact Nat.lt_of_lt_of_le hz (by decide), ?_⟩
  refine k _ _ (W1.pop.updM ha ⟨xs ++ [v], upd_same, ?_⟩)
  have hm : a ∈ hid c ρ1 := List.mem_append_right _ (mem_muts.mpr ⟨i, l, _, ha⟩)
  have e6 : Ex (hide (hid c ρ1) H1) (hide (hid c ρ1) (upd H1 a (.lst (xs ++ [v])))) := hide_mono fun b o nb e => ⟨nb, by rw [upd_ne (fun q => nb (by rw [q]; exact hm))]; exact e⟩
  exact dpam e6 (dpa_append e5 (.cons W1.dp .nil))
theorem s_setL {i : Nat} {l : Bool} {a : Addr} {ds : List PyData} {j : Int} {n : Nat} (h : Ed c ρ te d ρ1) (hj : Ed c ρ1 tb (.int j) ρ2) (h0 : ∃ l o, ρ1[i]? = some (.mu l a o)) (ha : ρ2[i]? = some (.mu l a (.lst ds))) (hn : ixN ds.length j = some n) (k : Sk c T (ρ2.set i (.mu l a (.lst (ds.set n d)))) nx) :
    Ss c T ρ (tAsg te (gSub (tVar i) tb rSetL)) ⟨nx, rt, bk, ct⟩ := fun σ H W => h T σ H W _ fun v H1 W1 => by
  obtain ⟨l0, o0, h0⟩ := h0
  obtain ⟨e0, _, _⟩ := W1.ok i _ h0
  refine ⟨.ref a, e0, hj _ σ H1 W1 _ fun w H2 W2 => ?_⟩
  obtain ⟨e1, e2, xs, e3, e4⟩ := W2.ok i _ ha
  refine ⟨a, xs, j, n, rfl, dp_int W2.dp, e3, by rw [dpa_length e4]; exact hn, ?_⟩
  have W3 := W2.pop
  refine k _ _ (W3.pop.updM ha ⟨xs.set n v, upd_same, ?_⟩)
  have hm : a ∈ hid c ρ2 := List.mem_append_right _ (mem_muts.mpr ⟨i, l, _, ha⟩)
  have e5 : Ex (hide (hid c ρ2) H2) (hide (hid c ρ2) (upd H2 a (.lst (xs.set n v)))) := hide_mono fun b o nb e => ⟨nb, by rw [upd_ne (fun q => nb (by rw [q]; exact hm))]; exact e⟩
  exact dpam e5 (dpa_set n e4 W3.dp)
theorem s_if {b : Bool} (h : Et c ρ t b ρ1) (h1 : b = true → Ss c T ρ1 ts D) (h2 : b = false → Ss c T ρ1 tu D) : Ss c T ρ (tIfS t ts tu) D := fun σ H W => h T σ H W _ fun H1 W1 => by
  cases b with
  | true => exact h1 rfl σ H1 W1
  | false => exact h2 rfl σ H1 W1
/-- an if that is not entered (what is in it is never reached) -/
theorem s_skip {b : Bool} (h : Et c ρ t b ρ1) (hb : b = false) (k : Sk c T ρ1 nx) : Ss c T ρ (tIfS t ts tNext) ⟨nx, rt, bk, ct⟩ := s_if h (fun e => by rw [hb] at e; cases e) (fun _ => k)
/-- a for over anything -/
theorem s_for {wi : TI} {tbd : TS} {ds : List Itm} (h : Ei c ρ wi ds ρ1) (I : Nat → List Sl) (h0 : Le ρ1 (I 0))
    (hs : ∀ (T' : Tm), (∀ p ∈ T, p ∈ T') → ∀ (i : Nat) (d : Itm), ds[i]? = some d → ∃ ρa ws, Eg c g d (I i) ρa ws ∧ Ss c T' ρa tbd ⟨fun σ H => Wd c T' H σ (I (i + 1)), rt, nx, fun σ H => Wd c T' H σ (I (i + 1))⟩)
    (hd : Sk c T (I ds.length) nx) : Ss c T ρ (tFor wi g tbd) ⟨nx, rt, bk, ct⟩ := fun σ H W => h T σ H W _ fun J H1 T1 W1 hw => by
  refine ⟨fun i m σ' H' => i + m = ds.length ∧ Wd c (T1 ++ T) H' σ' (I i), ⟨ds.length, by omega, W1.le h0⟩, fun i m σ' H' ⟨hm, W2⟩ => ?_⟩
  have hwk := hw c T σ' H' (I i) rfl W2
  by_cases hi : i < ds.length
  · refine .inr ⟨(hwk.1 i hi).1, fun σ3 H3 => Wd c (T1 ++ T) H3 σ3 (I (i + 1)), fun σ3 H3 h3 => ⟨m - 1, by omega, by omega, h3⟩, fun x H3 hy => ?_⟩
    obtain ⟨d, hd', W3⟩ := (hwk.1 i hi).2 x H3 hy
    obtain ⟨ρa, ws, g1, g2⟩ := hs (T1 ++ T) (fun p hp => List.mem_append_right _ hp) i d hd'
    exact g1 _ σ' H3 x W3 _ fun σ4 H4 W4 _ => g2 σ4 H4 W4
  · have ei : i = ds.length := by omega
    subst ei
    exact .inl ⟨hwk.2 _ (Nat.le_refl _), hd σ' H' (W2.tmps fun p hp => List.mem_append_right _ hp)⟩
/-- a for over typed items -/
theorem s_forX {α : Type} {wi : TI} {tbd : TS} (xs : List α) (ea : α → Itm) (h : Ei c ρ wi (xs.map ea) ρ1) (I : Nat → List Sl) (h0 : Le ρ1 (I 0))
    (hs : ∀ (T' : Tm), (∀ p ∈ T, p ∈ T') → ∀ (i : Nat) (x : α), xs[i]? = some x → ∃ ρa ws, Eg c g (ea x) (I i) ρa ws ∧ Ss c T' ρa tbd ⟨fun σ H => Wd c T' H σ (I (i + 1)), rt, nx, fun σ H => Wd c T' H σ (I (i + 1))⟩)
    (hd : Sk c T (I xs.length) nx) : Ss c T ρ (tFor wi g tbd) ⟨nx, rt, bk, ct⟩ := by
  refine s_for h I h0 (fun T' hT i d hd => ?_) (by rw [List.length_map]; exact hd)
  rw [List.getElem?_map] at hd
  cases hx : xs[i]? with
  | none => rw [hx] at hd; cases hd
  | some x =>
    rw [hx] at hd
    have hd : ea x = d := Option.some.inj hd
    subst hd
    exact hs T' hT i x hx
/-- a while, by a state α -/
theorem s_while {α : Type} {tbd : TS} (I : α → List Sl) (P : α → Prop) (μ : α → Nat) (a0 : α) (hP : P a0) (h0 : Le ρ (I a0))
    (hs : ∀ a, P a → ∃ (b : Bool) (ρa : List Sl), Et c (I a) t b ρa ∧ (b = true → Ss c T ρa tbd ⟨fun σ H => ∃ a', P a' ∧ μ a' < μ a ∧ Wd c T H σ (I a'), rt, nx, fun σ H => ∃ a', P a' ∧ μ a' < μ a ∧ Wd c T H σ (I a')⟩) ∧ (b = false → Sk c T ρa nx)) :
    Ss c T ρ (tWhile t tbd) ⟨nx, rt, bk, ct⟩ := fun σ H W => by
  refine ⟨fun m σ' H' => ∃ a, P a ∧ μ a = m ∧ Wd c T H' σ' (I a), ⟨μ a0, a0, hP, rfl, W.le h0⟩, fun m σ' H' ⟨a, ha, hm, W1⟩ => ?_⟩
  obtain ⟨b, ρa, g1, g2, g3⟩ := hs a ha
  refine g1 T σ' H' W1 _ fun H2 W2 => ?_
  cases b with
  | true =>
    rw [if_pos rfl]
    refine ⟨fun σ3 H3 => ∃ a', P a' ∧ μ a' < μ a ∧ Wd c T H3 σ3 (I a'), fun σ3 H3 ⟨a', q1, q2, q3⟩ => ⟨μ a', by omega, a', q1, rfl, q3⟩, g2 rfl σ' H2 W2⟩
  | false =>
    rw [if_neg (by decide)]
    exact g3 rfl σ' H2 W2
theorem s_endW {α : Type} {I : α → List Sl} {P : α → Prop} {μ : α → Nat} {n : Nat} (a' : α) (hP : P a') (hμ : μ a' < n) (h : Le ρ (I a')) : Sk c T ρ (fun σ H => ∃ a', P a' ∧ μ a' < n ∧ Wd c T H σ (I a')) := fun σ H W => ⟨a', hP, hμ, W.le h⟩
/-- what is wanted of what is returned -/
def Rt (c : Cz) (d : PyData) (ms : List (Addr × MO)) (rt : VK) : Prop := ∀ v H', (∀ a o, a ∉ c.M → c.B a = some o → H' a = some o) → (∀ p ∈ ms, MoOk c.K c.S0 H' p.1 p.2) → Dz c.K (hide c.S0 H') v d → rt v H'
theorem hide_S0 : Ex (hide (hid c ρ) H) (hide c.S0 H) := hide_mono fun a o n h => ⟨fun m => n (List.mem_append_left _ m), h⟩
theorem s_ret (h : Ed c ρ te d ρ1) (hr : Rt c d [] D.rt) : Ss c T ρ (tRet te) D := fun σ H W => h T σ H W _ fun v H1 W1 => hr v H1 W1.keep (fun _ hp => by cases hp) (dpm hide_S0 W1.dp)
theorem s_retS {i : Nat} {l : Bool} {a : Addr} {st : MO} (h : Ed c ρ te d ρ1) (hi : ρ1[i]? = some (.mu l a st)) (hr : Rt c d [(a, st)] D.rt) : Ss c T ρ (tRet te) D := fun σ H W => h T σ H W _ fun v H1 W1 => hr v H1 W1.keep (fun p hp => by
  simp only [List.mem_singleton] at hp
  subst hp
  exact (W1.ok i _ hi).2.2.mono hide_S0 rfl) (dpm hide_S0 W1.dp)
/-! ### a def's entry -/
theorem start_wd {K : PySem.W.Frag} {N : List Str} {vs : List V} {ds : List PyData} {S M : List Addr} {H : Hp} (hd : ∀ a ∈ S, ∃ o, H a = some o) (a : DzAll K (hide S H) vs ds) (hl : ds.length ≤ N.length) :
    Wd ⟨K, H, [], S⟩ [] H (L2.start N vs) (ds.map .da ++ List.replicate (N.length - ds.length) .no) := by
  have lv := dpa_length a
  have nm : ∀ (i : Nat) (l : Bool) (b : Addr) (o : MO), (ds.map Sl.da ++ List.replicate (N.length - ds.length) Sl.no)[i]? ≠ some (.mu l b o) := fun i l b o e => by
    have := List.mem_of_getElem? e
    simp at this
  have hid0 : muts (ds.map Sl.da ++ List.replicate (N.length - ds.length) Sl.no) = [] := by
    apply List.eq_nil_iff_forall_not_mem.mpr
    intro b m
    obtain ⟨i, l, o, e⟩ := mem_muts.mp m
    exact nm i l b o e
  have hh : hid ⟨K, H, [], S⟩ (ds.map Sl.da ++ List.replicate (N.length - ds.length) Sl.no) = S := by
    show S ++ muts _ = S
    rw [hid0, List.append_nil]
  refine ⟨?_, fun a o _ h => h, fun a m => (nomatch m), hd, fun p hp => (nomatch hp), fun i j l m a o u h _ => absurd h (nm i l a o), fun i a o h => absurd h (nm i true a o), fun i s e => ?_⟩
  · unfold L2.start
    simp [lv]
  · rw [hh]
    unfold L2.start
    by_cases hi : i < ds.length
    · rw [List.getElem?_append_left (by simpa using hi), List.getElem?_map, List.getElem?_eq_getElem hi] at e
      cases e
      obtain ⟨v, e1, e2⟩ := dpa_get a (List.getElem?_eq_getElem hi)
      refine ⟨v, ?_, e2⟩
      rw [List.getElem?_append_left (by simp; omega), List.getElem?_map, e1]
      rfl
    · rw [List.getElem?_append_right (by simp; omega)] at e
      have := List.mem_of_getElem? e
      simp at this
      rw [this.2]
      exact trivial
/-- a pure def -/
theorem fn_pure {K : PySem.W.Frag} {R : List PyData → PyData → Prop} {N : List Str} {ts : TS} (hN : ∀ ds d, R ds d → ds.length ≤ N.length)
    (h : ∀ (B : Hp) (S : List Addr) (ds : List PyData) (d : PyData), R ds d → ∀ D : Ends, Rt ⟨K, B, [], S⟩ d [] D.rt → (d = .none → ∀ T ρ, Sk ⟨K, B, [], S⟩ T ρ D.nx) → Ss ⟨K, B, [], S⟩ [] (ds.map .da ++ List.replicate (N.length - ds.length) .no) ts D)
    (vs : List V) (H : Hp) (Q : VK) (E : XK) (hs : SpP K R vs H Q E) : ts { nx := fun _ H' => Q .non H', rt := Q } (L2.start N vs) H := by
  obtain ⟨S, ds, d, hd, a, hR, q⟩ := hs
  refine h H S ds d hR { nx := fun _ H' => Q .non H', rt := Q } (fun v H' k _ dp => q v H' (fun a o e => k a o (fun m => nomatch m) e) dp) (fun e T ρ σ H' W => ?_) _ _ (start_wd (M := []) hd a (hN _ _ hR))
  subst e
  exact q .non H' (fun a o e => W.keep a o (fun m => nomatch m) e) .non
end
end Nz

/-! rules of the machine that the layer lacks: plain tuples, reversed tuples, sums of tuples, tuple.count, repr of data, products and quotients of great ints -/
namespace Nz
open PySem PySem.Spec PyProof.Rows L2 RZ HT

theorem isTup_dict {h : Heap} {a : Addr} {o : Obj} {its : Array Value} (e : h.get? a = some o) (p : IsTup h a its) : o.cls = .type "tuple" ∧ ∃ n, o.data = .seq its n := by
  obtain ⟨o', e', hc, hd⟩ := p
  rw [e] at e'
  cases e'
  exact ⟨hc, hd⟩
section
variable {X : Cx} {pins : List (Addr × Obj)} {σ : L2.St} {H : Hp} {s : Shared}
/-- a new tuple is laid, plain -/
theorem newTup (I : Inv X pins σ H s) {xs : List V} {its : List Value} {Q : VK} (z : xs.length ≤ sizeLine) (r : Vals xs its) (q : ∀ p o, o.dict = none → H p = none → Q (.ref p) (upd H p (.frz o (.tup xs)))) :
    EP X pins σ Q (.ref s.heap.objs.size) { s with heap := s.heap.push { cls := .type "tuple", data := .seq its.toArray } } := by
  refine ⟨.ref s.heap.objs.size, _, I.laid (t' := s.toks) (o := .frz { cls := .type "tuple", data := .seq its.toArray } (.tup xs)) (fun b ob q => Heap.get?_push_of_some _ q) (Nat.le_refl _) ?_, rfl, q _ _ rfl (I.hok.fresh (Nat.le_refl _))⟩
  exact ⟨Heap.get?_push_size _ rfl, z, its, r, IsTup.new _ _⟩
theorem pe_tupF {es : List Expr} {t : TA} {x1} {pos : Pos} (h : PA X es t) : PE X (.Tuple es x1 pos) (tTupF t) := by
  refine ⟨fun pins s σ H Q I hq => ?_⟩
  refine wpAny_Tuple_spliced (thn (h.run pos pins s σ H _ I hq) fun us s1 ⟨xs, H1, I1, r, z, q⟩ => ⟨by rw [← r.length]; exact z, ?_⟩)
  exact newTup I1 z r q
theorem call_tupleF : CallR X (.type "tuple") (rTupOf X.K) := by
  intro pins s σ H xs us Q I r h
  obtain ⟨p, ys, rfl, h⟩ := h
  obtain ⟨u, rfl, rx⟩ := vals1 r
  cases rx
  rcases h with ⟨hq, q⟩ | ⟨hq, q⟩
  · obtain ⟨its, r', pl, hz⟩ := I.list hq
    have hlen := r'.length
    refine call_tuple_list pl.isList (fun h' kp => ?_) (by simp only [List.size_toArray] <;> omega)
    exact newTup (s := { s with heap := h' }) (I.kept (t' := s.toks) kp) hz r' q
  · obtain ⟨its, r', pl, hz⟩ := I.tuple hq
    exact call_tuple_same pl ⟨.ref p, H, I, rfl, q⟩
/-- t + u -/
def rCatF (K : PySem.W.Frag) : R2 := fun x y H Q => ∃ a b xs ys, x = .ref a ∧ y = .ref b ∧ SqT K H a xs ∧ SqT K H b ys ∧ xs.length + ys.length ≤ sizeLine ∧
  (xs = [] → Q (.ref b) H) ∧ (xs ≠ [] → ys = [] → Q (.ref a) H) ∧ (xs ≠ [] → ys ≠ [] → ∀ p o, o.dict = none → H p = none → Q (.ref p) (upd H p (.frz o (.tup (xs ++ ys)))))
theorem op_catF : OpR X (binaryOp .Add) (rCatF X.K) := by
  intro pins s σ H x y v u Q I rx ry h
  obtain ⟨a, b, xs, ys, rfl, rfl, ha, hb, hz, q0, q1, q2⟩ := h
  cases rx
  cases ry
  obtain ⟨its, r1, p1, _⟩ := I.tuple ha
  obtain ⟨its2, r2, p2, _⟩ := I.tuple hb
  by_cases hx : xs = []
  · subst hx
    cases r1
    exact cat_tup0 p1 p2 ⟨.ref b, H, I, rfl, q0 rfl⟩
  · refine cat_tup p1 p2 (fun z => hx (r1.nil_iff.mp z)) (fun z => ⟨.ref a, H, I, rfl, q1 hx (r2.nil_iff.mp z)⟩) (fun z => ?_) (by rw [← r1.length, ← r2.length]; exact hz)
    exact newTup I (by rw [List.length_append]; exact hz) (r1.append r2) (q2 hx (fun w => z (r2.nil_iff.mpr w)))
/-- t[lo:hi]: the whole of it is t itself -/
def rSlF (K : PySem.W.Frag) : V → Option Int → Option Int → Hp → VK → Prop := fun x lo hi H Q => ∃ a xs, x = .ref a ∧ SqT K H a xs ∧
  (sIx xs.length 0 lo = 0 ∧ sIx xs.length xs.length hi = xs.length → Q (.ref a) H) ∧ (¬ (sIx xs.length 0 lo = 0 ∧ sIx xs.length xs.length hi = xs.length) → ∀ p o, o.dict = none → H p = none → Q (.ref p) (upd H p (.frz o (.tup (cutV xs lo hi)))))
theorem sl_tupF : SlR X (rSlF X.K) := by
  intro pins s σ H x v vl vu lo hi sl Q I rx hs pl pu h
  obtain ⟨a, xs, rfl, hx, q1, q2⟩ := h
  cases rx
  obtain ⟨its, r, ht, hz⟩ := I.tuple hx
  have hlen : its.toArray.size = xs.length := by rw [List.size_toArray]; exact r.length.symm
  by_cases hw : sIx xs.length 0 lo = 0 ∧ sIx xs.length xs.length hi = xs.length
  · refine ⟨"tuple", _, PyProof.Rows.slot_tuple_getitem.lookup, ht.typeIs, ?_⟩
    exact getItem_tuple_whole ht hs pl pu (by rw [hlen]; exact hw) ⟨.ref a, H, I, rfl, q1 hw⟩
  · refine ⟨"tuple", _, PyProof.Rows.slot_tuple_getitem.lookup, ht.typeIs, ?_⟩
    refine getItem_tuple_cut ht hs pl pu (by rw [hlen]; exact hw) ?_ (by rw [hlen]; exact hz)
    rw [hlen]
    exact newTup I (Nat.le_trans (cutV_length xs lo hi) hz) ((r.drop _).take _) (q2 hw)
end
/-! ### t[::-1] -/
section
variable {prog : Program} {w : World} {A : Around} {E : Value → Shared → Prop} {s : Shared}
theorem sliceApplied_rev {sl : Addr} {vl vu vs : Value} {n : Nat} {Q : Int × Int × Nat → Shared → Prop} (hs : s.heap.IsSliceOf sl vl vu vs) (pl : IsPart vl none) (pu : IsPart vu none) (ps : IsPart vs (some (-1)))
    (h : Q ((n : Int) - 1, -1, n) s) : wpAny (model prog w) A (Builtin.Slice.sliceApplied (.ref sl) (pure (n : Int))) Q E s := by
  obtain ⟨os, hos, hcs, hds⟩ := id hs
  unfold Builtin.Slice.sliceApplied Builtin.Slice.sliceFields
  refine wpAny_bind (wpAny_bind (wpAny_field hos hds (x := vl) rfl (wpAny_bind (wpAny_field hos hds (x := vu) rfl (wpAny_bind (wpAny_field hos hds (x := vs) rfl (wpAny_pure ?_)))))))
  refine wpAny_bind (slicePart_ ps ?_)
  show wpAny _ _ (if ((-1 : Int) == 0) = true then _ else _) _ _ s
  rw [if_neg (by decide)]
  refine wpAny_bind (slicePart_ pl (wpAny_bind (slicePart_ pu (wpAny_bind (wpAny_pure ?_)))))
  show wpAny _ _ (match Builtin.Slice.sliceAdjust none none (-1) (n : Int) with | (lo, hi) => pure (lo, (-1 : Int), Builtin.Slice.slicePlaces lo hi (-1))) _ _ s
  have e1 : Builtin.Slice.sliceAdjust none none (-1) (n : Int) = ((n : Int) - 1, -1) := rfl
  have e2 : Builtin.Slice.slicePlaces ((n : Int) - 1) (-1) (-1) = n := by
    unfold Builtin.Slice.slicePlaces
    rw [if_neg (by decide), show (-(-1 : Int)) = 1 from rfl, Int.ediv_one]
    split <;> omega
  rw [e1]
  show wpAny _ _ (pure ((n : Int) - 1, (-1 : Int), Builtin.Slice.slicePlaces ((n : Int) - 1) (-1) (-1))) _ _ s
  rw [e2]
  exact wpAny_pure h
theorem pick_rev (xs : Array Value) : ((List.range xs.size).filterMap fun (m : Nat) => xs[(((xs.size : Int) - 1) + (m : Int) * (-1)).toNat]?) = xs.toList.reverse := by
  apply List.ext_getElem?
  intro i
  have e : ((List.range xs.size).filterMap fun (m : Nat) => xs[(((xs.size : Int) - 1) + (m : Int) * (-1)).toNat]?) = (List.range xs.size).map fun (m : Nat) => xs.toList.getD (xs.size - 1 - m) .none := by
    have : ∀ l : List Nat, (∀ m ∈ l, m < xs.size) → (l.filterMap fun (m : Nat) => xs[(((xs.size : Int) - 1) + (m : Int) * (-1)).toNat]?) = l.map fun (m : Nat) => xs.toList.getD (xs.size - 1 - m) .none := fun l => by
      induction l with
      | nil => intro _; rfl
      | cons m l ih =>
        intro h
        have hm := h m (List.mem_cons_self ..)
        have ei : (((xs.size : Int) - 1) + (m : Int) * (-1)).toNat = xs.size - 1 - m := by omega
        have hlt : xs.size - 1 - m < xs.size := by omega
        rw [List.filterMap_cons, List.map_cons, ei, Array.getElem?_eq_getElem hlt, ih fun k hk => h k (List.mem_cons_of_mem _ hk)]
        simp [List.getD, hlt]
    exact this _ fun m hm => List.mem_range.mp hm
  rw [e, List.getElem?_map]
  by_cases hi : i < xs.size
  · rw [List.getElem?_range hi, List.getElem?_reverse (by simpa using hi)]
    simp [List.getD, show xs.size - 1 - i < xs.size by omega]
  · rw [List.getElem?_eq_none_iff.mpr (by simp; omega), List.getElem?_eq_none_iff.mpr (by simp; omega)]
    rfl
theorem getItem_tuple_rev {t sl : Addr} {items : Array Value} {vl vu vs : Value} {Q : Value → Shared → Prop} (ht : IsTup s.heap t items) (hs : s.heap.IsSliceOf sl vl vu vs) (pl : IsPart vl none) (pu : IsPart vu none) (ps : IsPart vs (some (-1)))
    (h : Q (.ref s.heap.objs.size) { s with heap := s.heap.push { cls := .type "tuple", data := .seq items.toList.reverse.toArray } })
    (hsz : items.size ≤ sizeLine) : wpAny (model prog w) A (getItem (.ref t) (.ref sl)) Q E s := by
  have htake : sizeOk (.seq items.toList.reverse.toArray) := by
    show items.toList.reverse.toArray.size ≤ sizeLine
    rw [List.size_toArray, List.length_reverse, Array.length_toList]
    exact hsz
  obtain ⟨os, hos, hcs, hds⟩ := id hs
  have hTs : s.TypeIs (.ref sl) "slice" := ⟨os, hos, hcs⟩
  unfold getItem
  try with_reducible refine wpAny_holding ?_
  first | refine wpAny_bind (wpAny_pure ?_) | skip
  refine wpAny_bind (wpAny_sequenceKey ht.typeIs (by decide) ?_)
  refine wpAny_bind (wpAny_callSpecial?_slot (name := Str.ofString "__getitem__") ht.typeIs PyProof.Rows.slot_tuple_getitem
    (wpAny_call_entry PyProof.Rows.slot_tuple_getitem ht.typeIs entry_tuple_getitem ?_ (args_tuple_getitem _ _)))
  show wpAny _ _ (Builtin.Tuple.tupleItemsOf (.ref t) >>= _) _ _ s
  refine wpAny_bind (tupleItemsOf_ ht ?_)
  refine wpAny_bind (wpAny_typeOf hTs ?_)
  rw [if_pos (by decide)]
  refine wpAny_bind (sliceApplied_rev hs pl pu ps ?_)
  have hno : ¬ ((((items.size : Int) - 1) == 0 && (-1 : Int) == 1 && items.size == items.size) = true) := by
    intro q
    rw [Bool.and_eq_true, Bool.and_eq_true] at q
    exact absurd (eq_of_beq q.1.2) (by decide)
  show wpAny _ _ (if (((items.size : Int) - 1) == 0 && (-1 : Int) == 1 && items.size == items.size) = true then _ else _) _ _ s
  rw [if_neg hno, pick_rev]
  first
    | exact wpAny_bind (m := Builtin.Tuple.tupleExact _) (wpAny_newObj_type (wpAny_pure ⟨_, rfl, wpAny_pure h⟩) htake)
    | exact wpAny_bind (m := Builtin.Tuple.tupleExact _) (wpAny_newObj_type (wpAny_bind (wpAny_pure (wpAny_pure ⟨_, rfl, wpAny_pure h⟩))) htake)
    | exact wpAny_bind (wpAny_bind (m := Builtin.Tuple.tupleExact _) (wpAny_newObj_type (wpAny_pure (wpAny_pure ⟨_, rfl, wpAny_pure h⟩)) htake))
    | exact wpAny_bind (wpAny_bind (m := Builtin.Tuple.tupleExact _) (wpAny_newObj_type (wpAny_pure ⟨_, rfl, wpAny_pure h⟩) htake))
end
section
variable {X : Cx}
def tRevT (K : PySem.W.Frag) (te : TE) : TE := fun σ H Q => te σ H fun x H1 => ∃ a xs, x = .ref a ∧ SqT K H1 a xs ∧ ∀ p o, o.dict = none → H1 p = none → Q (.ref p) (upd H1 p (.frz o (.tup xs.reverse)))
theorem pe_revT {e : Expr} {te : TE} {k : Nat} {p1 p2 p3 pos : Pos} (he : PE X e te) : PE X (.Subscript e (.Slice none none (some (.UnaryOp .USub (.Constant (.int 1) k p1) p2)) p3) pos) (tRevT X.K te) := by
  refine ⟨fun pins s σ H Q I h => ?_⟩
  refine Subscript_ (thn (he.run pins s σ H _ I h) fun v s1 ⟨x, H1, I1, r1, q1⟩ => ?_)
  obtain ⟨a, xs, ex, hx, q⟩ := q1
  subst ex
  cases r1
  have hst : PO X (some (.UnaryOp .USub (.Constant (.int 1) k p1) p2)) (tPart (tUn (rU fun i => .int (-i)) (tC (.int 1)))) := po_some (pe_un un_neg pe_int)
  refine wpAny_Slice (thn (po_none.run pins s1 σ H1 (fun o H2 => o = none ∧ H2 = H1) I1 ⟨rfl, rfl⟩) fun vl s2 ⟨l, H2, I2, pl, el, e2⟩ => ?_)
  subst el e2
  refine thn (po_none.run pins s2 σ H2 (fun o H3 => o = none ∧ H3 = H2) I2 ⟨rfl, rfl⟩) fun vu s3 ⟨u, H3, I3, pu, eu, e3⟩ => ?_
  subst eu e3
  refine thn (hst.run pins s3 σ H3 (fun o H4 => o = some (-1) ∧ H4 = H3) I3 ⟨1, rfl, -1, rfl, rfl, rfl⟩) fun vs s4 ⟨o, H4, I4, ps, eo, e4⟩ => ?_
  subst eo e4
  have I5 : Inv X pins σ H4 { s4 with heap := s4.heap.push { cls := .type "slice", data := .fields #[vl, vu, vs] } } := I4.kept (t' := s4.toks) fun b ob q => Heap.get?_push_of_some _ q
  obtain ⟨its, r, ht, hz⟩ := I5.tuple hx
  have hlen := r.length
  show wpAny (model X.prog X.w) X.A (subscriptTail e (.Slice none none (some (.UnaryOp .USub (.Constant (.int 1) k p1) p2)) p3) (.ref a) (.ref s4.heap.objs.size)) (EP X pins σ Q) X.xe { s4 with heap := s4.heap.push { cls := .type "slice", data := .fields #[vl, vu, vs] } }
  refine tail_any (ops := [.ref a, .ref s4.heap.objs.size]) ht.typeIs (PyProof.Rows.slot_tuple_getitem.lookup) ?_ (by with_unfolding_all rfl)
  refine getItem_tuple_rev ht (Heap.IsSliceOf.new _ vl vu vs) pl pu ps ?_ (by rw [List.size_toArray]; omega)
  exact newTup I5 (by rw [List.length_reverse]; exact hz) r.reverse q
end
/-! ### list + list, whatever they are -/
section
variable {X : Cx}
def rCatG (K : PySem.W.Frag) : R2 := fun x y H Q => ∃ a b xs ys, x = .ref a ∧ y = .ref b ∧ SqL K H a xs ∧ SqL K H b ys ∧ xs.length + ys.length ≤ sizeLine ∧ ∀ p, H p = none → Q (.ref p) (upd H p (.lst (xs ++ ys)))
theorem op_catG : OpR X (binaryOp .Add) (rCatG X.K) := by
  intro pins s σ H x y v u Q I rx ry h
  obtain ⟨a, b, xs, ys, rfl, rfl, ha, hb, hz, q⟩ := h
  cases rx
  cases ry
  obtain ⟨its, r, ⟨⟨cls, dd, data, sl⟩, n, ho, hc, hdd, hd⟩, hl⟩ := I.list ha
  obtain ⟨its2, r2, ⟨⟨cls2, dd2, data2, sl2⟩, n2, ho2, hc2, hdd2, hd2⟩, hl2⟩ := I.list hb
  simp only at hc hd hc2 hd2
  subst hc hd hc2 hd2
  have e1 := r.length
  have e2 := r2.length
  refine concat_meets ⟨_, ho, rfl⟩ ⟨_, ho2, rfl⟩ noFill_list_add seq_list_add PySem.F.slot_list_add PySem.F.entry_list_add (PySem.F.args_list_add_2 _ _)
    (list_addW a b its.toArray its2.toArray n n2 dd dd2 sl sl2 (by rw [List.size_toArray, List.size_toArray]; omega)) ⟨ho, ho2, ?_⟩
  have ea : its.toArray ++ its2.toArray = (its ++ its2).toArray := by simp
  rw [ea]
  exact ⟨.ref _, _, I.lnew (t' := s.toks) (r.append r2) (by rw [List.length_append]; exact hz), rfl, q _ I.fresh⟩
/-- xs[i], by values -/
def rGetG (K : PySem.W.Frag) : V → V → Hp → VK → Prop := fun x y H Q => ∃ p xs i v, x = .ref p ∧ y = .int i ∧ SqL K H p xs ∧ atI xs i = some v ∧ Q v H
end
/-! ### ints of any size -/
section
variable {X : Cx}
theorem op_mulG : OpR X (binaryOp .Mult) (rI IntMulOk fun i j => .int (i * j)) := opI fun _ _ _ _ _ _ _ hc q => mul_int q hc
theorem iop_mulG : OpR X (inplaceOp .Mult) (rI IntMulOk fun i j => .int (i * j)) := opI fun _ _ _ _ _ _ _ hc q => imul_int q hc
def CDivG (i j : Int) : Prop := 0 < j ∧ Builtin.divisionGoesByPylong i j = false
theorem op_fdivG : OpR X (binaryOp .FloorDiv) (rI CDivG fun i j => .int (i / j)) := opI fun i j _ _ _ _ _ hc q => by
  have h1 : (0 : Int) < j := hc.1
  exact floordiv_int (by omega) (by rw [Int.fdiv_eq_ediv_of_nonneg i (by omega)]; exact q) (.inl hc.2)
end
/-! ### sums, greatest and least items of tuples -/
section
variable {prog : Program} {w : World} {A : Around} {E : Value → Shared → Prop} {s : Shared} {l : Addr} {xs : Array (Int × Tok)}
theorem iter_intTup {Q : Value → Shared → Prop} (hl : s.heap.IsTuple l (intItems xs))
    (h : ∀ s₂ : Shared, s₂ = { s with heap := s.heap.push { cls := .type "tuple_iterator", data := .fields #[.ref l, .int 0 0] } } →
      (s₂.heap.IsTupleIter s.heap.objs.size l 0 ∧ s₂.heap.IsTuple l (intItems xs)) → (∀ b ∈ [s.heap.objs.size, l], b < s₂.heap.objs.size) → l ≠ s.heap.objs.size → Q (.ref s.heap.objs.size) s₂) :
    wpAny (model prog w) A (pyIter (.ref l)) Q E s := by
  have hlt : l < s.heap.objs.size := by obtain ⟨_, e, _⟩ := hl; exact Heap.lt_size e
  refine wpAny_pyIter_tuple hl (h _ rfl ⟨⟨_, Heap.get?_push_size _ rfl, rfl, rfl⟩, hl.at fun o e => Heap.get?_push_of_some _ e⟩ (fun b hb => ?_) (Nat.ne_of_lt hlt))
  show b < (s.heap.push _).objs.size
  rw [Heap.size_push]
  rcases List.mem_cons.mp hb with rfl | hb
  · exact Nat.lt_succ_self _
  · rcases List.mem_cons.mp hb with rfl | hb
    · exact Nat.lt_succ_of_lt hlt
    · cases hb
theorem old_keptT {h' : Heap} (hk : ∀ b o, b ∉ [s.heap.objs.size] → (s.heap.push { cls := .type "tuple_iterator", data := .fields #[.ref l, .int 0 0] }).get? b = some o → h'.get? b = some o) :
    ∀ b o, s.heap.get? b = some o → h'.get? b = some o := fun b o e => hk b o (by simpa using Nat.ne_of_lt (Heap.lt_size e)) (Heap.get?_push_of_some _ e)
theorem sum_intTupG {Q : Value → Shared → Prop} (hh : A.handled = none) (hl : s.heap.IsTuple l (intItems xs))
    (h : ∀ h' tk t', (∀ b o, s.heap.get? b = some o → h'.get? b = some o) → Q (.int (preSum (numAt xs) xs.size) t') { s with heap := h', toks := tk }) :
    wpAny (model prog w) A (call (.builtin "sum") [.ref l]) Q E s := by
  refine call_sum_walkG (iter_intTup hl fun s₂ e st hfp hlI => ?_)
  subst e
  refine ⟨_, _, _, _, _, _, numAt xs, rfl, Walks.tuple (A := A.in1) hh _ l hlI (intItems xs), st, hfp, (fun _ _ => intItems_at), fun h' tk t' hk => ?_⟩
  have := h h' tk t' (old_keptT hk)
  simpa [intItems] using this
theorem max_intTup {Q : Value → Shared → Prop} (hh : A.handled = none) (hl : s.heap.IsTuple l (intItems xs)) (hne : 0 < xs.size)
    (h : ∀ v h' tk, (intItems xs)[argBest (fun i j => decide (numAt xs i > numAt xs j)) (xs.size - 1)]? = some v → (∀ b o, s.heap.get? b = some o → h'.get? b = some o) → Q v { s with heap := h', toks := tk }) :
    wpAny (model prog w) A (call (.builtin "max") [.ref l]) Q E s := by
  refine call_max_walk (iter_intTup hl fun s₂ e st hfp hlI => ?_)
  subst e
  refine ⟨_, _, _, _, _, _, _, rfl, Walks.tuple (A := A.in1) hh _ l hlI (intItems xs), st, hfp, by simpa [intItems] using hne, CmpOf.ints_gt (numAt xs) (fun _ _ => intItems_at), fun v h' tk hP hk => ?_⟩
  exact h v h' tk (by simpa [intItems] using hP) (old_keptT hk)
theorem min_intTup {Q : Value → Shared → Prop} (hh : A.handled = none) (hl : s.heap.IsTuple l (intItems xs)) (hne : 0 < xs.size)
    (h : ∀ v h' tk, (intItems xs)[argBest (fun i j => decide (numAt xs i < numAt xs j)) (xs.size - 1)]? = some v → (∀ b o, s.heap.get? b = some o → h'.get? b = some o) → Q v { s with heap := h', toks := tk }) :
    wpAny (model prog w) A (call (.builtin "min") [.ref l]) Q E s := by
  refine call_min_walk (iter_intTup hl fun s₂ e st hfp hlI => ?_)
  subst e
  refine ⟨_, _, _, _, _, _, _, rfl, Walks.tuple (A := A.in1) hh _ l hlI (intItems xs), st, hfp, by simpa [intItems] using hne, CmpOf.ints_lt (numAt xs) (fun _ _ => intItems_at), fun v h' tk hP hk => ?_⟩
  exact h v h' tk (by simpa [intItems] using hP) (old_keptT hk)
end
section
variable {X : Cx}
def rSumT (K : PySem.W.Frag) : List V → Hp → VK → Prop := fun vs H Q => ∃ (a : Addr) (ns : List Int), vs = [V.ref a] ∧ (SqT K H a (ns.map V.int) ∨ SqL K H a (ns.map V.int)) ∧ Q (.int ns.sum) H
theorem cr_sumT (hc : X.calm = true) : CallR X (.builtin "sum") (rSumT X.K) := by
  intro pins s σ H vs us Q I r h
  obtain ⟨a, ns, rfl, hs, q⟩ := h
  rcases hs with hs | hs
  · obtain ⟨its, rv, ht, _⟩ := I.tuple hs
    rw [Vals.ref1 r]
    have hi := rv.ints
    obtain ⟨xs, e⟩ := hi.allInts.items
    have hn : numsOf (intItems xs).toList = ns := by rw [← e]; exact hi.numsOf
    rw [nums_intItems] at hn
    rw [e] at ht
    refine sum_intTupG (I.ok.hd hc) ht fun h' tk t' hk => ?_
    refine ⟨.int _, H, I.kept hk, ⟨t', ?_⟩, q⟩
    rw [preSum_eq, List.take_of_length_le (by simp), hn]
  · exact cr_sum hc pins s σ H _ us Q I r ⟨a, ns, rfl, hs, q⟩
def rMaxT (K : PySem.W.Frag) : List V → Hp → VK → Prop := fun vs H Q => ∃ (a : Addr) (ns : List Int), vs = [V.ref a] ∧ (SqT K H a (ns.map V.int) ∨ SqL K H a (ns.map V.int)) ∧ 0 < ns.length ∧ ∀ m, m ∈ ns → (∀ y, y ∈ ns → y ≤ m) → Q (.int m) H
def rMinT (K : PySem.W.Frag) : List V → Hp → VK → Prop := fun vs H Q => ∃ (a : Addr) (ns : List Int), vs = [V.ref a] ∧ (SqT K H a (ns.map V.int) ∨ SqL K H a (ns.map V.int)) ∧ 0 < ns.length ∧ ∀ m, m ∈ ns → (∀ y, y ∈ ns → m ≤ y) → Q (.int m) H
theorem cr_maxT (hc : X.calm = true) : CallR X (.builtin "max") (rMaxT X.K) := by
  intro pins s σ H vs us Q I r h
  obtain ⟨a, ns, rfl, hs, hne, q⟩ := h
  rcases hs with hs | hs
  · obtain ⟨its, rv, ht, _⟩ := I.tuple hs
    rw [Vals.ref1 r]
    have hi := rv.ints
    obtain ⟨xs, e⟩ := hi.allInts.items
    have hn : numsOf (intItems xs).toList = ns := by rw [← e]; exact hi.numsOf
    rw [nums_intItems] at hn
    subst hn
    rw [e] at ht
    have hsz : 0 < xs.size := by simpa using hne
    refine max_intTup (I.ok.hd hc) ht hsz fun v h' tk hv hk => ?_
    obtain ⟨t, rfl⟩ := intItems_at hv
    obtain ⟨h1, h2⟩ := argBest_gt (numAt xs) (xs.size - 1)
    refine ⟨.int _, H, I.kept hk, ⟨t, rfl⟩, q _ ?_ fun a ha => ?_⟩
    · rw [numAt_eq]; exact PySem.getD_mem (by rw [List.length_map, Array.length_toList]; omega)
    · obtain ⟨j, hj, rfl⟩ := mem_getD ha
      rw [List.length_map, Array.length_toList] at hj
      have := h2 j (by omega)
      rw [numAt_eq, numAt_eq] at this
      rw [numAt_eq]
      exact this
  · exact cr_max hc pins s σ H _ us Q I r ⟨a, ns, rfl, hs, hne, q⟩
theorem cr_minT (hc : X.calm = true) : CallR X (.builtin "min") (rMinT X.K) := by
  intro pins s σ H vs us Q I r h
  obtain ⟨a, ns, rfl, hs, hne, q⟩ := h
  rcases hs with hs | hs
  · obtain ⟨its, rv, ht, _⟩ := I.tuple hs
    rw [Vals.ref1 r]
    have hi := rv.ints
    obtain ⟨xs, e⟩ := hi.allInts.items
    have hn : numsOf (intItems xs).toList = ns := by rw [← e]; exact hi.numsOf
    rw [nums_intItems] at hn
    subst hn
    rw [e] at ht
    have hsz : 0 < xs.size := by simpa using hne
    refine min_intTup (I.ok.hd hc) ht hsz fun v h' tk hv hk => ?_
    obtain ⟨t, rfl⟩ := intItems_at hv
    obtain ⟨h1, h2⟩ := argBest_lt (numAt xs) (xs.size - 1)
    refine ⟨.int _, H, I.kept hk, ⟨t, rfl⟩, q _ ?_ fun a ha => ?_⟩
    · rw [numAt_eq]; exact PySem.getD_mem (by rw [List.length_map, Array.length_toList]; omega)
    · obtain ⟨j, hj, rfl⟩ := mem_getD ha
      rw [List.length_map, Array.length_toList] at hj
      have := h2 j (by omega)
      rw [numAt_eq, numAt_eq] at this
      rw [numAt_eq]
      exact this
  · exact cr_min hc pins s σ H _ us Q I r ⟨a, ns, rfl, hs, hne, q⟩
end
/-! ### repr of data -/
section
variable {X : Cx}
def showOk (d : PyData) : Prop := d.showable = true ∧ d.hasDict = false ∧ d.depth ≤ 60 ∧ d.shown.length ≤ sizeLine
def rRepr (K : PySem.W.Frag) : List V → Hp → VK → Prop := fun xs H Q => ∃ v d, xs = [v] ∧ Dp K H v d ∧ showOk d ∧ Q (.str d.shown) H
theorem call_repr (hg : X.A.guards = some []) (hu : X.A.units + 61 < cLine) : CallR X (.builtin "repr") (rRepr X.K) := by
  intro pins s σ H xs us Q I r h
  obtain ⟨v, d, rfl, hd, ⟨h1, h2, h3, h4⟩, q⟩ := h
  obtain ⟨u, rfl, ru⟩ := vals1 r
  obtain ⟨as, rd⟩ := Dp.reads I d v u hd ru
  cases rd with
  | none => exact PySem.P.repr_of_none ⟨.str _, H, I.tok _, ⟨_, rfl⟩, q⟩
  | bool b => exact PySem.P.repr_of_bool ⟨.str _, H, I.tok _, ⟨_, rfl⟩, q⟩
  | int i t => exact PySem.P.repr_of_int (by simpa [PyData.showable] using h1) ⟨.str _, H, I.tok _, ⟨_, rfl⟩, q⟩
  | str x t => exact PySem.P.repr_of_str ⟨.str _, H, I.tok _, ⟨_, rfl⟩, q⟩ h4
  | list a1 a2 a3 a4 =>
    exact repr_of_reads' (.list a1 a2 a3 a4) h1 (fun e => by rw [h2] at e; cases e) hg (by omega) (fun _ _ e => e) (fun h' u tk hk => ⟨.str _, H, I.kept (t' := tk) hk, ⟨u, rfl⟩, q⟩) h4
  | tuple a1 a2 a3 a4 =>
    exact repr_of_reads' (.tuple a1 a2 a3 a4) h1 (fun e => by rw [h2] at e; cases e) hg (by omega) (fun _ _ e => e) (fun h' u tk hk => ⟨.str _, H, I.kept (t' := tk) hk, ⟨u, rfl⟩, q⟩) h4
  | dict a1 a2 a3 a4 a5 => simp [PyData.hasDict] at h2
end
end Nz

/-! defs and their calls, where no repr is on the way (so that repr may be called) -/
namespace Nz
open PySem PySem.Spec PyProof.Rows L2
section
variable {P : Program} {w : World} {K : PySem.W.Frag} {mg : Str → Option Value} {base : Heap}
/-- a def keeps its promise, wherever it is called from a place at which no repr runs -/
structure FnG (P : Program) (w : World) (K : PySem.W.Frag) (mg : Str → Option Value) (base : Heap) (k : Nat) (f : Addr) (fd : FuncData) (ps : List Str) (sp : Sp) : Prop where
  len : ∀ vs H Q, sp vs H Q E0 → vs.length = ps.length
  run : ∀ (A : Around) (outer : List Env) (s : Shared) (H : Hp) (args : Args) (us : List Value) (vs : List V) (Q : VK), Room k A → A.guards = some [] → Env0 P w K mg base A outer s H →
    BindsTo s fd args (ps.zip us) → Vals vs us → sp vs H Q E0 → codeAny (model P w) A (.call (.ref f) args) (CR CX0 outer P w H s Q E0) s
theorem FnG.mono {j k : Nat} {f : Addr} {fd : FuncData} {ps : List Str} {sp : Sp} (F : FnG P w K mg base j f fd ps sp) (h : j ≤ k) : FnG P w K mg base k f fd ps sp :=
  ⟨F.len, fun A outer s H args us vs Q hr => F.run A outer s H args us vs Q (hr.mono h)⟩
theorem guards_deeper {A : Around} {env : Env} (h : A.guards = some []) : (A.deeper env).guards = some [] := h
/-- a def of the text, by its body -/
theorem fnG_of {x qual : Str} {st : Stmt} {f : Addr} {fd : FuncData} {N ps : List Str} {k : Nat} {sp : Sp} (F : Fun K x qual st f fd) (S : FnScope N ps (defScope st)) (len : ∀ vs H Q, sp vs H Q E0 → vs.length = ps.length)
    (hbody : ∀ (cdv : Value) (A : Around) (outer : List Env) (s : Shared) (H : Hp), Room k (A.deeper (envOfC qual (defScope st) s.heap.objs.size f cdv)) → A.guards = some [] →
      ∃ t, PSs (cxOf CX0 P w K mg base N qual (defScope st) f cdv A outer s H E0).nox (defBody st) t ∧ ∀ (vs : List V) (Q : VK), sp vs H Q E0 → t { nx := fun _ H' => Q .non H', rt := Q } (L2.start N vs) H) :
    FnG P w K mg base (k + 1) f fd ps sp := by
  obtain ⟨oc, od, kV, doc, pm, an, cdv, ct, osl, rfl, lk, hcd⟩ := F.ex
  refine ⟨len, fun A outer s H args us vs Q hr hgd e0 hb r hsp => ?_⟩
  have hl := len _ _ _ hsp
  have kept : ∀ b o, base.get? b = some o → s.heap.get? b = some o := fun b o e => (e0.bs b o e).1
  have KX : K.In s.heap := e0.mod.kin.keeps kept
  have pk : ∀ y ∈ ps.zip us, (defScope st).names.lookup y.1 = some .local ∨ ((defScope st).names.lookup y.1 = some .cell ∧ ((cellsFrom (s.heap.objs.size + 1) (defScope st).names []).lookup y.1).isSome = true) := by
    intro y hy
    obtain ⟨n, v⟩ := y
    cases S.par n (List.of_mem_zip hy).1 with
    | inl q => exact .inl q
    | inr q => exact .inr ⟨q, PySem.W.cellsFrom_some _ _ _ (.inl q)⟩
  apply codeAny_call_function hr.depth (KX _ _ lk) rfl S.co S.gen rfl (PySem.W.codeRec_of KX hcd)
  apply hb
  refine wpAny_newFunctionEnv_cells S.kind pk fun env he s1 x => ?_
  subst he
  refine ⟨(e0.mod.nolimit.keeps kept).keeps x.toInCall.keep, codeAny_func ?_⟩
  obtain ⟨t, ht, hq⟩ := hbody cdv A outer s H (hr.deeper _) hgd
  have I := inv_start (CX := CX0) (E := E0) (cd := cdv) (qual := qual) S hr.hd e0 hl r x
  refine wpAny_mono (ht.nox.run [] s1 _ H _ I (hq vs Q hsp)) (fun fl s' hs => ?_) fun e s' hs => hs
  match fl, hs with
  | .ret u, ⟨v, σ', H', J, rv, q⟩ => exact ⟨v, H', J.os, J.bare, J.base, J.hok, rv, q⟩
  | .next, ⟨σ', H', J, q⟩ => exact ⟨V.non, H', J.os, J.bare, J.base, J.hok, rfl, q⟩
  | .brk, ⟨_, _, _, q⟩ => exact q.elim
  | .cont, ⟨_, _, _, q⟩ => exact q.elim
/-- a def that is called by its name -/
structure Cl (P : Program) (w : World) (K : PySem.W.Frag) (mg : Str → Option Value) (base : Heap) (k : Nat) (x : Str) (ps : List Str) (sp : Sp) : Prop where
  ex : ∃ f fd, FnG P w K mg base k f fd ps sp ∧ mg x = some (.ref f) ∧ PySem.W.keepIn K (.ref f) = true ∧ Binds K fd ps []
/-- where a def of the text stands behind the top -/
structure Fd (K : PySem.W.Frag) (mg : Str → Option Value) (x : Str) (st : Stmt) : Prop where
  ex : ∃ f fd, Fun K x x st f fd ∧ mg x = some (.ref f)
theorem Cl.mono {j k : Nat} {x : Str} {ps : List Str} {sp : Sp} (C : Cl P w K mg base j x ps sp) (h : j ≤ k) : Cl P w K mg base k x ps sp := by
  obtain ⟨f, fd, F, r⟩ := C.ex
  exact ⟨f, fd, F.mono h, r⟩
end
section
variable {X : Cx} {k : Nat} {x : Str} {ps : List Str} {sp : Sp} {e : Expr} {es : List Expr} {t : TA} {p pos : Pos}
theorem run_fnG {f : Addr} {fd : FuncData} {pins : List (Addr × Obj)} {σ : L2.St} {H : Hp} {s : Shared} {Q : VK} {us : List Value} {vs : List V} (F : FnG X.prog X.w X.K X.mg X.base k f fd ps sp) (hr : Room k X.A) (hgd : X.A.guards = some []) (hb : Binds X.K fd ps [])
    (I : L2.Inv X pins σ H s) (r : Vals vs us) (h : sp vs H Q E0) : wpAny (model X.prog X.w) X.A (call (.ref f) us) (EP X pins σ Q) X.xe s := by
  have hl : (us ++ []).length = ps.length := by rw [List.append_nil, ← r.length]; exact F.len _ _ _ h
  have hb2 := hb s us I.kIn hl
  rw [List.append_nil] at hb2
  apply wpAny_call
  refine codeAny_mono (F.run X.A X.stack s H ⟨us, []⟩ us vs Q hr hgd I.env0 hb2 r h) fun q s' hq => ?_
  match q, hq with
  | .error _, hq => exact hq.elim
  | .ok (.ret u), hq => exact I.after hq
  | .ok .next, hq => exact hq.elim
  | .ok .brk, hq => exact hq.elim
  | .ok .cont, hq => exact hq.elim
theorem pe_cl (C : Cl X.prog X.w X.K X.mg X.base k x ps sp) (hr : Room k X.A) (hgd : X.A.guards = some []) (hg : Gl X x) (ha : PA X (e :: es) t)
    (hdb : (x == ("__debug__" : Str)) = false := by decide) (he : starEach (e :: es) X.env = (false, eval e X.env) :: starEach es X.env := by rfl) (hpl : (backTo pos (starEach es X.env)).any (·.1) = false := by rfl) :
    PE X (.Call (.Name x p) (e :: es) [] pos) (tCall sp [] E0 t) := by
  obtain ⟨f, fd, F, hm, hk, hb⟩ := C.ex
  refine ⟨fun pins s σ H Q I h => ?_⟩
  apply wpAny_Call_Name_kw
  apply ld_glob I hg hm ?_ hdb
  refine PySem.W.callWith_K (h₀ := X.base) I.ok.mod.kin hk (thn (ha.run pos pins s σ H _ I h) fun us s1 h1 => ?_) he hpl
  obtain ⟨vs, H1, I1, r, q⟩ := h1
  rw [List.append_nil] at q
  exact ⟨I1.kIn, run_fnG F hr hgd hb I1 r q⟩
end
end Nz

/-! typed data, and the rules for it that gen.py names -/
namespace Nz
open PySem PySem.Spec PyProof.Rows L2 RZ

/-! ### encodings -/
abbrev eQ (r : Rat) : PyData := .tuple [.int r.num, .int (r.den : Int)]
abbrev eT {α : Type} (f : α → PyData) (l : List α) : PyData := .tuple (l.map f)
abbrev eL {α : Type} (f : α → PyData) (l : List α) : PyData := .list (l.map f)
abbrev eP {α β : Type} (f : α → PyData) (g : β → PyData) (p : α × β) : PyData := .tuple [f p.1, g p.2]
abbrev eP3 {α β γ : Type} (f : α → PyData) (g : β → PyData) (h : γ → PyData) (p : α × β × γ) : PyData := .tuple [f p.1, g p.2.1, h p.2.2]
abbrev eP4 {α β γ δ : Type} (f : α → PyData) (g : β → PyData) (h : γ → PyData) (k : δ → PyData) (p : α × β × γ × δ) : PyData := .tuple [f p.1, g p.2.1, h p.2.2.1, k p.2.2.2]
def eO {α : Type} (f : α → PyData) : Option α → PyData
  | none => .none
  | some a => f a
/-- an item at a place of any sign -/
def ixG {α : Type} [Inhabited α] (xs : List α) (i : Int) : α := (atI xs i).getD default
def InB (n : Nat) (i : Int) : Prop := -(n : Int) ≤ i ∧ i < n
theorem atI_ixG {α : Type} [Inhabited α] {xs : List α} {i : Int} (h : InB xs.length i) : atI xs i = some (ixG xs i) := by
  unfold ixG
  cases e : atI xs i with
  | some a => rfl
  | none =>
    exfalso
    unfold atI ixN at e
    obtain ⟨h1, h2⟩ := h
    by_cases h0 : 0 ≤ i
    · rw [if_pos h0, if_pos h2] at e
      rw [Option.bind_some, List.getElem?_eq_none_iff] at e
      omega
    · rw [if_neg h0, if_pos h1, Option.bind_some, List.getElem?_eq_none_iff] at e
      omega
theorem atI_map {α β : Type} (f : α → β) (xs : List α) (i : Int) : atI (xs.map f) i = (atI xs i).map f := by
  unfold atI
  rw [List.length_map]
  cases ixN xs.length i with
  | none => rfl
  | some j => rw [Option.bind_some, Option.bind_some, List.getElem?_map]
theorem ixG_nat {α : Type} [Inhabited α] {xs : List α} {j : Nat} {v : α} (h : xs[j]? = some v) : ixG xs (j : Int) = v := by
  unfold ixG; rw [atI_nat h]; rfl
theorem ixG_last {α : Type} [Inhabited α] (xs : List α) (v : α) : ixG (xs ++ [v]) (-1) = v := by
  unfold ixG; rw [atI_last]; rfl
def cutX {α : Type} (xs : List α) (lo hi : Option Int) : List α := (xs.drop (HT.sIx xs.length 0 lo)).take (HT.sIx xs.length xs.length hi - HT.sIx xs.length 0 lo)
theorem cutD_map {α : Type} (f : α → PyData) (xs : List α) (lo hi : Option Int) : cutD (xs.map f) lo hi = (cutX xs lo hi).map f := by
  unfold cutD cutX
  rw [List.length_map, List.map_take, List.map_drop]
def maxOf (xs : List Int) : Int := xs.foldl max (xs.headD 0)
def minOf (xs : List Int) : Int := xs.foldl min (xs.headD 0)
theorem foldl_max_ge (l : List Int) : ∀ a, a ≤ l.foldl max a ∧ ∀ y ∈ l, y ≤ l.foldl max a := by
  induction l with
  | nil => intro a; exact ⟨Int.le_refl _, fun y h => nomatch h⟩
  | cons x l ih =>
    intro a
    obtain ⟨h1, h2⟩ := ih (max a x)
    refine ⟨by show a ≤ l.foldl max (max a x); omega, fun y hy => ?_⟩
    show y ≤ l.foldl max (max a x)
    rcases List.mem_cons.mp hy with e | e
    · rw [e]; omega
    · exact h2 y e
theorem foldl_max_mem (l : List Int) : ∀ a, l.foldl max a = a ∨ l.foldl max a ∈ l := by
  induction l with
  | nil => intro a; exact .inl rfl
  | cons x l ih =>
    intro a
    show l.foldl max (max a x) = a ∨ l.foldl max (max a x) ∈ x :: l
    rcases ih (max a x) with h | h
    · rcases Int.le_total a x with q | q
      · exact .inr (by rw [h, Int.max_eq_right q]; exact List.mem_cons_self ..)
      · exact .inl (by rw [h, Int.max_eq_left q])
    · exact .inr (List.mem_cons_of_mem _ h)
theorem maxOf_mem {l : List Int} (h : 0 < l.length) : maxOf l ∈ l := by
  cases l with
  | nil => simp at h
  | cons x l =>
    unfold maxOf
    rcases foldl_max_mem (x :: l) x with e | e
    · show (x :: l).foldl max x ∈ _
      rw [e]; exact List.mem_cons_self ..
    · exact e
theorem maxOf_ge {l : List Int} {y : Int} (h : y ∈ l) : y ≤ maxOf l := (foldl_max_ge l _).2 y h
theorem foldl_min_le (l : List Int) : ∀ a, l.foldl min a ≤ a ∧ ∀ y ∈ l, l.foldl min a ≤ y := by
  induction l with
  | nil => intro a; exact ⟨Int.le_refl _, fun y h => nomatch h⟩
  | cons x l ih =>
    intro a
    obtain ⟨h1, h2⟩ := ih (min a x)
    refine ⟨by show l.foldl min (min a x) ≤ a; omega, fun y hy => ?_⟩
    show l.foldl min (min a x) ≤ y
    rcases List.mem_cons.mp hy with e | e
    · rw [e]; omega
    · exact h2 y e
theorem foldl_min_mem (l : List Int) : ∀ a, l.foldl min a = a ∨ l.foldl min a ∈ l := by
  induction l with
  | nil => intro a; exact .inl rfl
  | cons x l ih =>
    intro a
    show l.foldl min (min a x) = a ∨ l.foldl min (min a x) ∈ x :: l
    rcases ih (min a x) with h | h
    · rcases Int.le_total a x with q | q
      · exact .inl (by rw [h, Int.min_eq_left q])
      · exact .inr (by rw [h, Int.min_eq_right q]; exact List.mem_cons_self ..)
    · exact .inr (List.mem_cons_of_mem _ h)
theorem minOf_mem {l : List Int} (h : 0 < l.length) : minOf l ∈ l := by
  cases l with
  | nil => simp at h
  | cons x l =>
    unfold minOf
    rcases foldl_min_mem (x :: l) x with e | e
    · show (x :: l).foldl min x ∈ _
      rw [e]; exact List.mem_cons_self ..
    · exact e
theorem minOf_le {l : List Int} {y : Int} (h : y ∈ l) : minOf l ≤ y := (foldl_min_le l _).2 y h
/-! ### a product's and a quotient's sizes -/
theorem mul_l {i j : Int} (h : -(2 ^ 64) < i) (h2 : i < 2 ^ 64) : IntMulOk i j := IntMulOk.of_left (intBits_le_64 h h2)
theorem mul_r {i j : Int} (h : -(2 ^ 64) < j) (h2 : j < 2 ^ 64) : IntMulOk i j := IntMulOk.of_right (intBits_le_64 h h2)
theorem mul_b {i j : Int} {a b : Nat} (ha : i.natAbs < 2 ^ a) (hb : j.natAbs < 2 ^ b) (h : a + b ≤ 900000 := by decide) : IntMulOk i j := by
  have x : i.natAbs.log2 < a + 1 := by
    by_cases z : i.natAbs = 0
    · rw [z]; simp
    · have := (Nat.log2_lt z).mpr ha; omega
  have y : j.natAbs.log2 < b + 1 := by
    by_cases z : j.natAbs = 0
    · rw [z]; simp
    · have := (Nat.log2_lt z).mpr hb; omega
  exact L2.CMulW.ok (by unfold L2.CMulW; omega)
theorem div_small {i j : Int} (h : 0 < j) (h2 : j < 1073741824) : CDivG i j := ⟨h, PyProof.noPylong_small (by omega)⟩
theorem div_b {i j : Int} (h : 0 < j) (h2 : j.natAbs < 2 ^ 8999) : CDivG i j := ⟨h, PyProof.noPylong_of_log2 (by
  have := (Nat.log2_lt (show j.natAbs ≠ 0 by omega)).mpr h2
  omega)⟩

section
variable {c : Cz} {ρ ρ1 ρ2 ρ3 : List Sl} {ta tb te tx : TE} {t u : TT} {d d1 d2 d3 : PyData} {T : Tm} {H H' : Hp} {σ : L2.St}
theorem spP_len {K : PySem.W.Frag} {Rl : List PyData → PyData → Prop} {ps : List Str} (h : ∀ ds d, Rl ds d → ds.length = ps.length) : ∀ vs H Q, SpP K Rl vs H Q E0 → vs.length = ps.length := fun vs H Q ⟨S, ds, d, _, a, r, _⟩ => (dpa_length a).trans (h ds d r)
theorem ed_ite {α : Type} {e : α → PyData} {x y : α} {b : Bool} (h : Et c ρ t b ρ1) (h1 : b = true → Ed c ρ1 ta (e x) ρ2) (h2 : b = false → Ed c ρ1 tb (e y) ρ2) : Ed c ρ (tIf t ta tb) (e (if b = true then x else y)) ρ2 :=
  ed_if h (fun q => by rw [if_pos q]; exact h1 q) (fun q => by rw [if_neg (by rw [q]; decide)]; exact h2 q)
/-! #### == of typed data -/
theorem eqv_int (i j : Int) : PyData.eqv (.int i) (.int j) = decide (i = j) := by
  unfold PyData.eqv; by_cases h : i = j <;> simp [h]
theorem rat_ext {r q : Rat} (h : r.num = q.num) (h2 : (r.den : Int) = (q.den : Int)) : r = q := Rat.ext h (by omega)
theorem eqv_Q (r q : Rat) : PyData.eqv (eQ r) (eQ q) = decide (r = q) := by
  by_cases h : r = q
  · subst h; simp [PyData.eqv, PyData.eqvAll]
  · have : ¬ (r.num = q.num ∧ (r.den : Int) = (q.den : Int)) := fun z => h (rat_ext z.1 z.2)
    simp only [PyData.eqv, PyData.eqvAll, h, decide_false, Bool.and_true]
    by_cases e : r.num = q.num
    · have e2 : ¬ (r.den : Int) = (q.den : Int) := fun z => this ⟨e, z⟩
      simp only [e, beq_self_eq_true, Bool.true_and]
      exact beq_eq_false_iff_ne.mpr e2
    · rw [show (r.num == q.num) = false from beq_eq_false_iff_ne.mpr e, Bool.false_and]
theorem shaped_int (i : Int) : SeqAt.shaped (.int i) = true := rfl
theorem shaped_bool (b : Bool) : SeqAt.shaped (.bool b) = true := rfl
theorem shaped_Q (r : Rat) : SeqAt.shaped (eQ r) = true := rfl
theorem ed_eqI {i j : Int} (ha : Ed c ρ ta (.int i) ρ1) (hb : Ed c ρ1 tb (.int j) ρ2) : Ed c ρ (tOp (rEqD c.K) ta tb) (.bool (decide (i = j))) ρ2 := ed_is (ed_eq ha hb rfl rfl) (congrArg PyData.bool (eqv_int i j))
theorem ed_neI {i j : Int} (ha : Ed c ρ ta (.int i) ρ1) (hb : Ed c ρ1 tb (.int j) ρ2) : Ed c ρ (tOp (rNeD c.K) ta tb) (.bool (!decide (i = j))) ρ2 := ed_is (ed_ne ha hb rfl rfl) (congrArg (fun b => PyData.bool (!b)) (eqv_int i j))
theorem ed_eqQ {i j : Rat} (ha : Ed c ρ ta (eQ i) ρ1) (hb : Ed c ρ1 tb (eQ j) ρ2) : Ed c ρ (tOp (rEqD c.K) ta tb) (.bool (decide (i = j))) ρ2 := ed_is (ed_eq ha hb rfl rfl) (congrArg PyData.bool (eqv_Q i j))
theorem ed_neQ {i j : Rat} (ha : Ed c ρ ta (eQ i) ρ1) (hb : Ed c ρ1 tb (eQ j) ρ2) : Ed c ρ (tOp (rNeD c.K) ta tb) (.bool (!decide (i = j))) ρ2 := ed_is (ed_ne ha hb rfl rfl) (congrArg (fun b => PyData.bool (!b)) (eqv_Q i j))
theorem eqv_bool (i j : Bool) : PyData.eqv (.bool i) (.bool j) = decide (i = j) := by cases i <;> cases j <;> rfl
theorem ed_eqB {i j : Bool} (ha : Ed c ρ ta (.bool i) ρ1) (hb : Ed c ρ1 tb (.bool j) ρ2) : Ed c ρ (tOp (rEqD c.K) ta tb) (.bool (decide (i = j))) ρ2 := ed_is (ed_eq ha hb rfl rfl) (congrArg PyData.bool (eqv_bool i j))
theorem ed_neB {i j : Bool} (ha : Ed c ρ ta (.bool i) ρ1) (hb : Ed c ρ1 tb (.bool j) ρ2) : Ed c ρ (tOp (rNeD c.K) ta tb) (.bool (!decide (i = j))) ρ2 := ed_is (ed_ne ha hb rfl rfl) (congrArg (fun b => PyData.bool (!b)) (eqv_bool i j))
/-! #### lists and tuples of typed data -/
theorem ed_lenTX {α : Type} {f : α → PyData} {l : List α} (h : Ed c ρ te (.tuple (l.map f)) ρ1) : Ed c ρ (tCB (rLenS c.K) (tCons te tNil)) (.int (l.length : Int)) ρ1 := ed_is (ed_lenT h) (by rw [List.length_map])
theorem ed_lenLX {α : Type} {f : α → PyData} {l : List α} (h : Ed c ρ te (.list (l.map f)) ρ1) : Ed c ρ (tCB (rLenS c.K) (tCons te tNil)) (.int (l.length : Int)) ρ1 := ed_is (ed_lenL h) (by rw [List.length_map])
theorem ix_some {α : Type} [Inhabited α] {f : α → PyData} {l : List α} {i : Int} (h : InB l.length i) : atI (l.map f) i = some (f (ixG l i)) := by rw [atI_map, atI_ixG h]; rfl
theorem ed_ixTX {α : Type} [Inhabited α] {f : α → PyData} {l : List α} {i : Int} (ha : Ed c ρ ta (.tuple (l.map f)) ρ1) (hb : Ed c ρ1 tb (.int i) ρ2) (h : InB l.length i) : Ed c ρ (tOp (rIxT c.K) ta tb) (f (ixG l i)) ρ2 := ed_ixT ha hb (ix_some h)
theorem ed_ixLX {α : Type} [Inhabited α] {f : α → PyData} {l : List α} {i : Int} (ha : Ed c ρ ta (.list (l.map f)) ρ1) (hb : Ed c ρ1 tb (.int i) ρ2) (h : InB l.length i) : Ed c ρ (tOp (rIxL c.K) ta tb) (f (ixG l i)) ρ2 := ed_ixL ha hb (ix_some h)
theorem ed_ixMX {α : Type} [Inhabited α] {f : α → PyData} {xs : List α} {i : Int} {j : Nat} {l : Bool} {a : Addr} (hb : Ed c ρ tb (.int i) ρ1) (ha : ρ1[j]? = some (.mu l a (.lst (xs.map f)))) (ha0 : ∃ l o, ρ[j]? = some (.mu l a o)) (h : InB xs.length i) :
    Ed c ρ (tOp (rIxL c.K) (tVar j) tb) (f (ixG xs i)) ρ1 := ed_ixM hb ha ha0 (ix_some h)
theorem ed_sliceT {α : Type} {f : α → PyData} {l : List α} {tl th : TO} {lo hi : Option Int} (ha : Ed c ρ ta (.tuple (l.map f)) ρ1) (hl : Eo c ρ1 tl lo ρ2) (hh : Eo c ρ2 th hi ρ3) : Ed c ρ (tSl (rSlF c.K) ta tl th) (.tuple ((cutX l lo hi).map f)) ρ3 := fun T σ H W Q q =>
  ha T σ H W _ fun v H1 W1 => hl _ σ H1 W1 _ fun H2 W2 => hh _ σ H2 W2 _ fun H3 W3 => by
    obtain ⟨a, xs, rfl, hs, h2⟩ := dp_tup W3.dp
    have hx := dpa_length h2
    have hc := cut_dp h2 lo hi
    rw [cutD_map] at hc
    refine ⟨a, xs, rfl, (ex_p (hide_ex _ _) hs).sq, fun hw => ?_, fun _ p o z hp => q _ _ (tup_new W3.pop hc z hp)⟩
    have e : cutX l lo hi = l := by
      rw [List.length_map] at hx
      rw [hx] at hw
      unfold cutX
      rw [hw.1, hw.2, List.drop_zero, Nat.sub_zero, List.take_length]
    rw [e] at q
    exact q _ H3 W3
theorem el_sliceX {α : Type} {f : α → PyData} {l : List α} {tl th : TO} {lo hi : Option Int} (ha : Ed c ρ ta (.list (l.map f)) ρ1) (hl : Eo c ρ1 tl lo ρ2) (hh : Eo c ρ2 th hi ρ3) : EdL c ρ (tSl (rSlL c.K) ta tl th) ((cutX l lo hi).map f) ρ3 :=
  el_is (el_slice ha hl hh) (cutD_map f l lo hi)
theorem ed_revT {α : Type} {f : α → PyData} {l : List α} (h : Ed c ρ te (.tuple (l.map f)) ρ1) : Ed c ρ (tRevT c.K te) (.tuple (l.reverse.map f)) ρ1 := fun T σ H W Q q => h T σ H W _ fun v H1 W1 => by
  obtain ⟨a, xs, rfl, hs, h2⟩ := dp_tup W1.dp
  refine ⟨a, xs, rfl, (ex_p (hide_ex _ _) hs).sq, fun p o z hp => q _ _ (tup_new W1.pop ?_ z hp)⟩
  rw [List.map_reverse]
  exact dpa_rev h2
theorem el_revL {α : Type} {f : α → PyData} {l : List α} (h : Ed c ρ te (.list (l.map f)) ρ1) : EdL c ρ (tRevL c.K te) (l.reverse.map f) ρ1 := fun T σ H W Q q => h T σ H W _ fun v H1 W1 => by
  obtain ⟨a, xs, rfl, hs, h2⟩ := dp_lst W1.dp
  refine ⟨a, xs, rfl, ex_l (hide_ex _ _) hs, fun p hp => ?_⟩
  have h3 := dpa_rev h2
  rw [← List.map_reverse] at h3
  obtain ⟨x1, x2, x3, x4⟩ := el_new W1.pop h3 hp
  exact q p _ x1 x2 x3 x4
theorem ed_catT {α : Type} {f : α → PyData} {l m : List α} (ha : Ed c ρ ta (.tuple (l.map f)) ρ1) (hb : Ed c ρ1 tb (.tuple (m.map f)) ρ2) (hz : l.length + m.length ≤ 100000) : Ed c ρ (tOp (rCatF c.K) ta tb) (.tuple ((l ++ m).map f)) ρ2 :=
  ed_op ha hb fun T σ H x y W hx hy Q q => by
    obtain ⟨a, xs, rfl, hs, h2⟩ := dp_tup hx
    obtain ⟨b, ys, rfl, hs', h3⟩ := dp_tup hy
    have lx := dpa_length h2
    have ly := dpa_length h3
    rw [List.length_map] at lx ly
    refine ⟨a, b, xs, ys, rfl, rfl, (ex_p (hide_ex _ _) hs).sq, (ex_p (hide_ex _ _) hs').sq, ?_, fun e => ?_, fun _ e => ?_, fun _ _ p o z hp => q _ _ (tup_new W ?_ z hp)⟩
    · rw [lx, ly]; exact Nat.le_trans hz (by decide)
    · have : l = [] := by rw [e] at lx; exact List.length_eq_zero_iff.mp lx.symm
      subst this
      exact q _ H (W.push hy)
    · have : m = [] := by rw [e] at ly; exact List.length_eq_zero_iff.mp ly.symm
      subst this
      rw [List.append_nil] at q
      exact q _ H (W.push hx)
    · rw [List.map_append]; exact dpa_append h2 h3
theorem el_cat {α : Type} {f : α → PyData} {l m : List α} (ha : Ed c ρ ta (.list (l.map f)) ρ1) (hb : Ed c ρ1 tb (.list (m.map f)) ρ2) (hz : l.length + m.length ≤ 100000) : EdL c ρ (tOp (rCatG c.K) ta tb) ((l ++ m).map f) ρ2 := fun T σ H W Q q =>
  ha T σ H W _ fun v H1 W1 => hb _ σ H1 W1 _ fun w H2 W2 => by
    obtain ⟨a, xs, rfl, hs, h2⟩ := dp_lst W2.pop.dp
    obtain ⟨b, ys, rfl, hs', h3⟩ := dp_lst W2.dp
    have lx := dpa_length h2
    have ly := dpa_length h3
    rw [List.length_map] at lx ly
    refine ⟨a, b, xs, ys, rfl, rfl, ex_l (hide_ex _ _) hs, ex_l (hide_ex _ _) hs', by rw [lx, ly]; exact Nat.le_trans hz (by decide), fun p hp => ?_⟩
    have h4 := dpa_append h2 h3
    rw [← List.map_append] at h4
    obtain ⟨x1, x2, x3, x4⟩ := el_new W2.pop.pop h4 hp
    exact q p _ x1 x2 x3 x4
/-- [..] * n -/
theorem el_rep {α : Type} {f : α → PyData} {l : List α} {k : Int} (ha : EdL c ρ ta (l.map f) ρ1) (hb : ∀ S B, Ed (c.at S B) ρ1 tb (.int k) ρ1) (hk : -1000000 ≤ k ∧ k ≤ 100000 ∧ l.length * k.toNat ≤ 100000) : EdL c ρ (tOp rRep ta tb) ((List.replicate k.toNat l).flatten.map f) ρ1 := fun T σ H W Q q =>
  ha T σ H W _ fun p H1 hB hn mo W1 => by
    obtain ⟨xs, hx, dx⟩ := mo
    have hs := W.sub
    have nS : p ∉ c.S0 := fun m => hn (List.mem_append_left _ m)
    have W2 : Wd (c.at (p :: c.S0) (upd c.B p (.lst xs))) (xs.zip (l.map f) ++ T) H1 σ ρ1 := (W1.pin hx hB hs nS).pushAll dx
    refine hb _ _ _ σ H1 W2 _ fun v H2 W3 => ?_
    have lx := dpa_length dx
    obtain ⟨h2, W4⟩ := W3.unpin hB (fun m => nS (hs p m))
    have dx2 := Wd.allOf (T := T) lx W4.pop
    have ez : xs.length * k.toNat ≤ 100000 := by rw [lx, List.length_map]; exact hk.2.2
    refine ⟨p, k, xs, rfl, dp_int W4.dp, h2, by omega, by omega, Nat.le_trans ez (by decide), fun r hr => ?_⟩
    have W5 : Wd c T H2 σ ρ1 := (W4.pop.tmps fun q hq => List.mem_append_right _ hq).unhide hs
    have e3 : Ex (hide (hid (c.hidden p) ρ1) H2) (hide (hid c ρ1) H2) := hide_mono fun a o n h => ⟨fun m => n (List.mem_cons_of_mem _ m), h⟩
    have d3 := dpa_rep (dpam e3 dx2) k.toNat
    have em : (List.replicate k.toNat (l.map f)).flatten = (List.replicate k.toNat l).flatten.map f := by rw [List.map_flatten, List.map_replicate]
    rw [em] at d3
    obtain ⟨x1, x2, x3, x4⟩ := el_new W5 d3 hr
    exact q r _ x1 x2 x3 x4
theorem ed_sumT {l : List Int} (h : Ed c ρ te (.tuple (l.map .int)) ρ1) : Ed c ρ (tCB (rSumT c.K) (tCons te tNil)) (.int l.sum) ρ1 := fun T σ H W Q q => h T σ H W _ fun v H1 W1 => by
  obtain ⟨a, xs, rfl, hs, h2⟩ := dp_tup W1.dp
  have := dpaInts h2
  subst this
  exact ⟨a, l, rfl, .inl (ex_p (hide_ex _ _) hs).sq, q _ H1 (W1.pop.push (.int _))⟩
theorem ed_sumL {l : List Int} (h : Ed c ρ te (.list (l.map .int)) ρ1) : Ed c ρ (tCB (rSumT c.K) (tCons te tNil)) (.int l.sum) ρ1 := fun T σ H W Q q => h T σ H W _ fun v H1 W1 => by
  obtain ⟨a, xs, rfl, hs, h2⟩ := dp_lst W1.dp
  have := dpaInts h2
  subst this
  exact ⟨a, l, rfl, .inr (ex_l (hide_ex _ _) hs), q _ H1 (W1.pop.push (.int _))⟩
theorem max_un {l : List Int} {m : Int} (h1 : m ∈ l) (h2 : ∀ y, y ∈ l → y ≤ m) : m = maxOf l := by
  have := maxOf_ge h1
  have := h2 _ (maxOf_mem (List.length_pos_of_mem h1))
  omega
theorem min_un {l : List Int} {m : Int} (h1 : m ∈ l) (h2 : ∀ y, y ∈ l → m ≤ y) : m = minOf l := by
  have := minOf_le h1
  have := h2 _ (minOf_mem (List.length_pos_of_mem h1))
  omega
theorem ed_maxT {l : List Int} (h : Ed c ρ te (.tuple (l.map .int)) ρ1) (hl : 0 < l.length) : Ed c ρ (tCB (rMaxT c.K) (tCons te tNil)) (.int (maxOf l)) ρ1 := fun T σ H W Q q => h T σ H W _ fun v H1 W1 => by
  obtain ⟨a, xs, rfl, hs, h2⟩ := dp_tup W1.dp
  have := dpaInts h2
  subst this
  exact ⟨a, l, rfl, .inl (ex_p (hide_ex _ _) hs).sq, hl, fun m h3 h4 => by rw [max_un h3 h4]; exact q _ H1 (W1.pop.push (.int _))⟩
theorem ed_maxL {l : List Int} (h : Ed c ρ te (.list (l.map .int)) ρ1) (hl : 0 < l.length) : Ed c ρ (tCB (rMaxT c.K) (tCons te tNil)) (.int (maxOf l)) ρ1 := fun T σ H W Q q => h T σ H W _ fun v H1 W1 => by
  obtain ⟨a, xs, rfl, hs, h2⟩ := dp_lst W1.dp
  have := dpaInts h2
  subst this
  exact ⟨a, l, rfl, .inr (ex_l (hide_ex _ _) hs), hl, fun m h3 h4 => by rw [max_un h3 h4]; exact q _ H1 (W1.pop.push (.int _))⟩
theorem ed_minT {l : List Int} (h : Ed c ρ te (.tuple (l.map .int)) ρ1) (hl : 0 < l.length) : Ed c ρ (tCB (rMinT c.K) (tCons te tNil)) (.int (minOf l)) ρ1 := fun T σ H W Q q => h T σ H W _ fun v H1 W1 => by
  obtain ⟨a, xs, rfl, hs, h2⟩ := dp_tup W1.dp
  have := dpaInts h2
  subst this
  exact ⟨a, l, rfl, .inl (ex_p (hide_ex _ _) hs).sq, hl, fun m h3 h4 => by rw [min_un h3 h4]; exact q _ H1 (W1.pop.push (.int _))⟩
theorem ed_minL {l : List Int} (h : Ed c ρ te (.list (l.map .int)) ρ1) (hl : 0 < l.length) : Ed c ρ (tCB (rMinT c.K) (tCons te tNil)) (.int (minOf l)) ρ1 := fun T σ H W Q q => h T σ H W _ fun v H1 W1 => by
  obtain ⟨a, xs, rfl, hs, h2⟩ := dp_lst W1.dp
  have := dpaInts h2
  subst this
  exact ⟨a, l, rfl, .inr (ex_l (hide_ex _ _) hs), hl, fun m h3 h4 => by rw [min_un h3 h4]; exact q _ H1 (W1.pop.push (.int _))⟩
theorem ed_max2 {i j : Int} (ha : Ed c ρ ta (.int i) ρ1) (hb : Ed c ρ1 tb (.int j) ρ2) : Ed c ρ (tCB (fun xs H Q => ∃ i j, xs = [.int i, .int j] ∧ Q (.int (if j > i then j else i)) H) (tCons ta (tCons tb tNil))) (.int (if j > i then j else i)) ρ2 := fun T σ H W Q q =>
  ha T σ H W _ fun v H1 W1 => hb _ σ H1 W1 _ fun w H2 W2 => ⟨i, j, by rw [dp_int W2.pop.dp, dp_int W2.dp], q _ H2 (W2.pop.pop.push (.int _))⟩
theorem ed_min2 {i j : Int} (ha : Ed c ρ ta (.int i) ρ1) (hb : Ed c ρ1 tb (.int j) ρ2) : Ed c ρ (tCB (fun xs H Q => ∃ i j, xs = [.int i, .int j] ∧ Q (.int (if j < i then j else i)) H) (tCons ta (tCons tb tNil))) (.int (if j < i then j else i)) ρ2 := fun T σ H W Q q =>
  ha T σ H W _ fun v H1 W1 => hb _ σ H1 W1 _ fun w H2 W2 => ⟨i, j, by rw [dp_int W2.pop.dp, dp_int W2.dp], q _ H2 (W2.pop.pop.push (.int _))⟩
theorem ed_all {l : List Bool} (h : Ed c ρ te (.list (l.map .bool)) ρ1) : Ed c ρ (tCB (rAll c.K) (tCons te tNil)) (.bool (l.all id)) ρ1 := fun T σ H W Q q => h T σ H W _ fun v H1 W1 => by
  obtain ⟨a, xs, rfl, hs, h2⟩ := dp_lst W1.dp
  have := dpaBools h2
  subst this
  exact ⟨a, l, rfl, ex_l (hide_ex _ _) hs, q _ H1 (W1.pop.push (.bl _))⟩
theorem ed_any {l : List Bool} (h : Ed c ρ te (.list (l.map .bool)) ρ1) : Ed c ρ (tCB (rAny c.K) (tCons te tNil)) (.bool (l.any id)) ρ1 := fun T σ H W Q q => h T σ H W _ fun v H1 W1 => by
  obtain ⟨a, xs, rfl, hs, h2⟩ := dp_lst W1.dp
  have := dpaBools h2
  subst this
  exact ⟨a, l, rfl, ex_l (hide_ex _ _) hs, q _ H1 (W1.pop.push (.bl _))⟩
/-! #### isinstance, repr -/
def tyD : PyData → String
  | .none => "NoneType"
  | .bool _ => "bool"
  | .int _ => "int"
  | .str _ => "str"
  | .list _ => "list"
  | .tuple _ => "tuple"
  | .dict _ => "dict"
theorem tyx_of {v : V} (h : Dz c.K H v d) : TyX c.K H v (.type (tyD d)) := by
  cases h with
  | non => exact .base .non
  | bl b => exact .base (.bl b)
  | int i => exact .base (.int i)
  | str x => exact .base (.str x)
  | lst hs ha =>
    rcases hs with (hs | ⟨o, hs⟩) | ⟨o, its, n, h1, h2, _⟩
    · exact .base (.lst hs)
    · exact .base (.frz hs)
    · exact .kList h1 h2
  | tup hs ha =>
    rcases hs with ⟨o, hs, _⟩ | ⟨o, its, n, h1, h2, _⟩
    · exact .fTuple hs
    · exact .kTuple h1 h2
theorem ed_isi {n : String} {b : Bool} (h : Ed c ρ te d ρ1) (hk : kitB (tyD d) n = some b) : Ed c ρ (tCB (rIsi c.K) (tCons te (tCons (tC (.ty n)) tNil))) (.bool b) ρ1 := fun T σ H W Q q => h T σ H W _ fun v H1 W1 =>
  ⟨v, .ty n, _, _, b, rfl, .ty n, tyx_of (dpm (hide_ex _ _) W1.dp), kit_ty hk, q _ H1 (W1.pop.push (.bl _))⟩
def isi_int : PyData → Bool
  | .int _ => true
  | .bool _ => true
  | _ => false
def isi_bool : PyData → Bool
  | .bool _ => true
  | _ => false
theorem kit_int (d : PyData) : kitB (tyD d) "int" = some (isi_int d) := by
  cases d
  · exact (show kitB "NoneType" "int" = some false by decide +kernel)
  · exact (show kitB "bool" "int" = some true by decide +kernel)
  · exact (show kitB "int" "int" = some true by decide +kernel)
  · exact (show kitB "str" "int" = some false by decide +kernel)
  · exact (show kitB "list" "int" = some false by decide +kernel)
  · exact (show kitB "tuple" "int" = some false by decide +kernel)
  · exact (show kitB "dict" "int" = some false by decide +kernel)
theorem kit_bool (d : PyData) : kitB (tyD d) "bool" = some (isi_bool d) := by
  cases d
  · exact (show kitB "NoneType" "bool" = some false by decide +kernel)
  · exact (show kitB "bool" "bool" = some true by decide +kernel)
  · exact (show kitB "int" "bool" = some false by decide +kernel)
  · exact (show kitB "str" "bool" = some false by decide +kernel)
  · exact (show kitB "list" "bool" = some false by decide +kernel)
  · exact (show kitB "tuple" "bool" = some false by decide +kernel)
  · exact (show kitB "dict" "bool" = some false by decide +kernel)
theorem ed_isiD {n : String} {b : Bool} (h : Ed c ρ te d ρ1) (hk : kitB (tyD d) n = some b) : Ed c ρ (tCB (rIsi c.K) (tCons te (tCons (tC (.ty n)) tNil))) (.bool b) ρ1 := ed_isi h hk
theorem ed_repr (h : Ed c ρ te d ρ1) (hs : showOk d) : Ed c ρ (tCB (rRepr c.K) (tCons te tNil)) (.str d.shown) ρ1 := fun T σ H W Q q => h T σ H W _ fun v H1 W1 => ⟨v, d, rfl, dz_dp _ _ (dpm (hide_ex _ _) W1.dp), hs, q _ H1 (W1.pop.push (.str _))⟩
theorem et_truB {b : Bool} (h : Ed c ρ te (.bool b) ρ1) : Et c ρ (fun σ H Q => te σ H fun x H' => ∃ k, TruV c.K x H' k ∧ Q k H') b ρ1 := et_is (et_tru h) rfl
theorem et_truI {i : Int} (h : Ed c ρ te (.int i) ρ1) : Et c ρ (fun σ H Q => te σ H fun x H' => ∃ k, TruV c.K x H' k ∧ Q k H') (i != 0) ρ1 := et_is (et_tru h) rfl
theorem et_truL {α : Type} {f : α → PyData} {l : List α} (h : Ed c ρ te (.list (l.map f)) ρ1) : Et c ρ (fun σ H Q => te σ H fun x H' => ∃ k, TruV c.K x H' k ∧ Q k H') (!l.isEmpty) ρ1 := et_is (et_tru h) (by show (!(l.map f).isEmpty) = _; rw [List.isEmpty_map])
theorem et_truT {α : Type} {f : α → PyData} {l : List α} (h : Ed c ρ te (.tuple (l.map f)) ρ1) : Et c ρ (fun σ H Q => te σ H fun x H' => ∃ k, TruV c.K x H' k ∧ Q k H') (!l.isEmpty) ρ1 := et_is (et_tru h) (by show (!(l.map f).isEmpty) = _; rw [List.isEmpty_map])
/-! #### chains as tests -/
theorem et_chain {b : Bool} (h : Ed c ρ te (.bool b) ρ1) : Et c ρ (tTest te) b ρ1 := et_test h
theorem et_truM {j : Nat} {l : Bool} {a : Addr} {α : Type} {f : α → PyData} {xs : List α} (h : ρ[j]? = some (.mu l a (.lst (xs.map f)))) : Et c ρ (fun σ H Q => tVar j σ H fun x H' => ∃ k, TruV c.K x H' k ∧ Q k H') (!xs.isEmpty) ρ := fun T σ H W Q q => by
  obtain ⟨h0, _, ys, h1, h2⟩ := W.ok j _ h
  refine ⟨.ref a, h0, !xs.isEmpty, .inl ⟨ys, sq_of h1, ?_⟩, q H W⟩
  rw [isEmpty_dp h2, List.isEmpty_map]
/-! #### walks -/
theorem ei_listX {α : Type} {f : α → PyData} {l : List α} (h : Ed c ρ te (.list (l.map f)) ρ1) : Ei c ρ (iList c.K te) (l.map fun x => Itm.hard (f x)) ρ1 := by
  have := ei_list h
  rw [hards, List.map_map] at this
  exact this
theorem ei_tupX {α : Type} {f : α → PyData} {l : List α} (h : Ed c ρ te (.tuple (l.map f)) ρ1) : Ei c ρ (iTup c.K te) (l.map fun x => Itm.hard (f x)) ρ1 := by
  have := ei_tup h
  rw [hards, List.map_map] at this
  exact this
theorem ei_enumX {α : Type} {f : α → PyData} {l : List α} (h : Ed c ρ te (.list (l.map f)) ρ1) : Ei c ρ (iEnum c.K (tCons te tNil)) (l.zipIdx.map fun p => Itm.soft [PyData.int (p.2 : Int), f p.1]) ρ1 := by
  have := ei_enum h
  unfold enumD at this
  rw [List.zipIdx_map, List.map_map] at this
  exact this
theorem zipD_map {α β : Type} (f : α → PyData) (g : β → PyData) (l : List α) (m : List β) : zipD (l.map f) (m.map g) = (l.zip m).map fun p => Itm.soft [f p.1, g p.2] := by
  unfold zipD
  rw [List.zipWith_map, List.zip, List.map_zipWith]
theorem ei_zipLX {α β : Type} {f : α → PyData} {g : β → PyData} {l : List α} {m : List β} (h : Ed c ρ te (.list (l.map f)) ρ1) (h2 : Ed c ρ1 tb (.list (m.map g)) ρ2) : Ei c ρ (iZipA c.K (tCons te (tCons tb tNil))) ((l.zip m).map fun p => Itm.soft [f p.1, g p.2]) ρ2 := by
  have := ei_zip h h2
  rw [zipD_map] at this
  exact this
theorem ei_zipTX {α β : Type} {f : α → PyData} {g : β → PyData} {l : List α} {m : List β} (h : Ed c ρ te (.tuple (l.map f)) ρ1) (h2 : Ed c ρ1 tb (.tuple (m.map g)) ρ2) : Ei c ρ (iZipA c.K (tCons te (tCons tb tNil))) ((l.zip m).map fun p => Itm.soft [f p.1, g p.2]) ρ2 := by
  have := ei_zipT h h2
  rw [zipD_map] at this
  exact this
def rngX (lo hi : Int) : List Int := (List.range (hi - lo).toNat).map fun (i : Nat) => lo + (i : Int)
theorem ei_rngX2 {lo n : Int} (h : Ed c ρ te (.int lo) ρ1) (h2 : Ed c ρ1 tb (.int n) ρ2) (hn : (-4000000000 ≤ lo ∧ lo ≤ 4000000000) ∧ -4000000000 ≤ n ∧ n ≤ 4000000000) : Ei c ρ (iRng2 (tCons te (tCons tb tNil))) ((rngX lo n).map fun (i : Int) => Itm.hard (PyData.int i)) ρ2 := by
  have := ei_rng2 h h2 hn
  unfold hards rngD at this
  unfold rngX
  rw [List.map_map] at this ⊢
  exact this
/-! #### comprehensions by typed items -/
theorem el_lcAX {α β : Type} {wi : TI} {g : TG} {vs : List Nat} {xs : List α} {ea : α → Itm} {enc : β → PyData} {fb : α → β} (h : Ei c ρ wi (xs.map ea) ρ1) (hsz : xs.length ≤ 100000) (hvs : ∀ j ∈ vs, ρ1[j]? = some .no)
    (turn : ∀ (S : List Addr) (B : Hp) (x : α), x ∈ xs → ∃ ρa, Nz.wipeS ρa vs = ρ1 ∧ Eg (c.at S B) g (ea x) ρ1 ρa vs ∧ Ed (c.at S B) ρa te (enc (fb x)) ρa) :
    EdL c ρ (tLc wi g tYes te vs) ((xs.map fb).map enc) ρ1 := el_is (el_lcA xs ea (fun x => enc (fb x)) h hsz hvs turn) (by rw [List.map_map]; rfl)
theorem el_lcPX {α β : Type} {wi : TI} {g : TG} {tt : TT} {vs : List Nat} {xs : List α} {ea : α → Itm} {p : α → Bool} {enc : β → PyData} {fb : α → β} (h : Ei c ρ wi (xs.map ea) ρ1) (hsz : xs.length ≤ 100000) (hvs : ∀ j ∈ vs, ρ1[j]? = some .no)
    (turn : ∀ (S : List Addr) (B : Hp) (x : α), x ∈ xs → ∃ ρa, Nz.wipeS ρa vs = ρ1 ∧ Eg (c.at S B) g (ea x) ρ1 ρa vs ∧ Et (c.at S B) ρa tt (p x) ρa ∧ (p x = true → Ed (c.at S B) ρa te (enc (fb x)) ρa)) :
    EdL c ρ (tLc wi g tt te vs) (((xs.filter p).map fb).map enc) ρ1 := el_is (el_lcP xs ea p (fun x => enc (fb x)) h hsz hvs turn) (by rw [List.map_map]; rfl)
/-! #### statements by typed lists -/
theorem le_rfl {ρ ρ' : List Sl} (e : ρ = ρ') : Le ρ ρ' := e ▸ Le.refl ρ
theorem le_frzX {ρ ρ' : List Sl} {a : Addr} {ds es : List PyData} (e : ds = es) (t : Le ρ ρ') : Le (.mu true a (.lst ds) :: ρ) (.da (.list es) :: ρ') := by subst e; exact le_frz t
variable {D : Ends} {ts tu : TS} {g : TG} {nx bk ct : L2.St → Hp → Prop} {rt : VK}
theorem ixN_nn {n : Nat} {i : Int} (h : 0 ≤ i ∧ i < n) : ixN n i = some i.toNat := by unfold ixN; rw [if_pos h.1, if_pos h.2]
theorem s_setLX {α : Type} {f : α → PyData} {i : Nat} {l : Bool} {a : Addr} {xs : List α} {x : α} {j : Int} (h : Ed c ρ te (f x) ρ1) (hj : Ed c ρ1 tb (.int j) ρ2) (h0 : ∃ l o, ρ1[i]? = some (.mu l a o)) (ha : ρ2[i]? = some (.mu l a (.lst (xs.map f)))) (hn : 0 ≤ j ∧ j < xs.length)
    (k : Sk c T (ρ2.set i (.mu l a (.lst ((xs.set j.toNat x).map f)))) nx) : Ss c T ρ (tAsg te (gSub (tVar i) tb rSetL)) ⟨nx, rt, bk, ct⟩ :=
  s_setL h hj h0 ha (n := j.toNat) (ixN_nn (by rw [List.length_map]; exact hn)) (by rw [← List.map_set]; exact k)
/-- a op= with what C asks -/
theorem s_augC {C : Int → Int → Prop} {i : Nat} {f : Int → Int → Int} {a b : Int} (hx : ρ[i]? = some (.da (.int a))) (h : Ed c ρ te (.int b) ρ) (hc : C a b) (k : Sk c T (ρ.set i (.da (.int (f a b)))) nx) : Ss c T ρ (tAug i te (rI C fun i j => .int (f i j))) ⟨nx, rt, bk, ct⟩ := fun σ H W => by
  obtain ⟨v, e, dp⟩ := W.ok i _ hx
  refine ⟨v, e, h T σ H W _ fun w H1 W1 => ⟨a, b, dp_int dp, dp_int W1.dp, hc, ?_⟩⟩
  exact k _ _ (W1.pop.setD i (.int _))
end
end Nz

/-! methods of plain tuples -/
namespace Nz
open PySem PySem.Spec PyProof.Rows L2 RZ
section
variable {X : Cx} {o e : Expr} {es : List Expr} {to : TE} {t : TA} {name : Str} {apos cpos : Pos} {id : String} {r : V → List V → Hp → VK → Prop}
def tBMT (K : PySem.W.Frag) (r : V → List V → Hp → VK → Prop) (to : TE) (t : TA) : TE := fun σ H Q => to σ H fun x H1 => (∃ p xs, x = .ref p ∧ Pt K H1 p xs) ∧ t σ H1 fun xs H2 => r x xs H2 Q
theorem pt_is {pins : List (Addr × Obj)} {σ : L2.St} {H : Hp} {s : Shared} {x : V} {v : Value} (I : Inv X pins σ H s) (rv : RelV x v) (h : ∃ p xs, x = .ref p ∧ Pt X.K H p xs) :
    s.TypeIs v "tuple" ∧ ∀ a, v = .ref a → ∃ ob, s.heap.get? a = some ob ∧ ob.dict = none := by
  obtain ⟨p, xs, rfl, h⟩ := h
  cases rv
  rcases h with ⟨o, h, z⟩ | ⟨o, its, n, h1, h2, h3, h4, h5, h6⟩
  · have e := I.hok p _ h
    obtain ⟨e1, e2⟩ := e
    obtain ⟨hz, its, rr, ip⟩ := e2
    obtain ⟨o', e', hc, hd⟩ := ip
    have : o = o' := by rw [e1] at e'; exact Option.some.inj e'
    subst this
    refine ⟨⟨o, e1, hc⟩, fun a q => ?_⟩
    cases q
    exact ⟨o, e1, z⟩
  · refine ⟨⟨o, I.kIn p o h1, h2⟩, fun a q => ?_⟩
    cases q
    exact ⟨o, I.kIn p o h1, h3⟩
theorem pe_bmT (slot : Slot "tuple" name id) (hty : typeOf (.builtin id) = pure (.type "method_descriptor")) (hm : MtR X id r) (ho : PE X o to) (ha : PA X (e :: es) t)
    (hbase : attributeBase o name X.env (eval o X.env) = eval o X.env := by rfl)
    (hfew : ((backTo cpos (starEach (e :: es) X.env)).all (fun x => !x.1) && (backToKw cpos (keywordEach [] X.env)).all (fun x => x.1.isSome)
      && decide ((e :: es).length + ([] : List Keyword).length + (if ([] : List Keyword).isEmpty then 0 else 1) < 30)) = true := by rfl)
    (hline : (apos.endLine == cpos.line) = true := by rfl) (hs : starEach (e :: es) X.env = (false, eval e X.env) :: starEach es X.env := by rfl) (hplain : (backTo cpos (starEach es X.env)).any (·.1) = false := by rfl) :
    PE X (.Call (.Attribute o name apos) (e :: es) [] cpos) (tBMT X.K r to t) := by
  refine ⟨fun pins s σ H Q I h => ?_⟩
  refine wpAny_Call_method_late hbase hfew hline rfl (thn (ho.run pins s σ H _ I h) fun v s1 ⟨x, H1, I1, r1, ty, q1⟩ => ?_)
  obtain ⟨h1, h2⟩ := pt_is I1 r1 ty
  refine ⟨"tuple", id, PySem.F.plainAttrs_tuple, slot, hty, h1, h2, ?_⟩
  have hA := ha.run cpos pins s1 σ H1 _ I1 q1
  rw [hs] at hA ⊢
  refine Calls.callWith_builtin (by show (false || (backTo cpos (starEach es X.env)).any (·.1)) = false; rw [hplain] <;> rfl) (Calls.evalArgs_plain ?_)
  exact thn hA fun us s2 ⟨vs, H2, I2, r2, q2⟩ => hm pins s2 σ H2 x vs v us Q I2 r1 r2 q2
/-- the same, where X's own K is told apart -/
theorem pe_bmTK {K : PySem.W.Frag} (slot : Slot "tuple" name id) (hty : typeOf (.builtin id) = pure (.type "method_descriptor")) (hm : MtR X id r) (ho : PE X o to) (ha : PA X (e :: es) t) (hK : X.K = K := by rfl)
    (hbase : attributeBase o name X.env (eval o X.env) = eval o X.env := by rfl)
    (hfew : ((backTo cpos (starEach (e :: es) X.env)).all (fun x => !x.1) && (backToKw cpos (keywordEach [] X.env)).all (fun x => x.1.isSome)
      && decide ((e :: es).length + ([] : List Keyword).length + (if ([] : List Keyword).isEmpty then 0 else 1) < 30)) = true := by rfl)
    (hline : (apos.endLine == cpos.line) = true := by rfl) (hs : starEach (e :: es) X.env = (false, eval e X.env) :: starEach es X.env := by rfl) (hplain : (backTo cpos (starEach es X.env)).any (·.1) = false := by rfl) :
    PE X (.Call (.Attribute o name apos) (e :: es) [] cpos) (tBMT K r to t) := hK ▸ pe_bmT slot hty hm ho ha hbase hfew hline hs hplain
theorem pe_bmK {K : PySem.W.Frag} {T : String} (pa : PlainAttrs T) (slot : Slot T name id) (hty : typeOf (.builtin id) = pure (.type "method_descriptor")) (hm : MtR X id r) (ho : PE X o to) (ha : PA X (e :: es) t) (hK : X.K = K := by rfl)
    (hbase : attributeBase o name X.env (eval o X.env) = eval o X.env := by rfl)
    (hfew : ((backTo cpos (starEach (e :: es) X.env)).all (fun x => !x.1) && (backToKw cpos (keywordEach [] X.env)).all (fun x => x.1.isSome)
      && decide ((e :: es).length + ([] : List Keyword).length + (if ([] : List Keyword).isEmpty then 0 else 1) < 30)) = true := by rfl)
    (hline : (apos.endLine == cpos.line) = true := by rfl) (hs : starEach (e :: es) X.env = (false, eval e X.env) :: starEach es X.env := by rfl) (hplain : (backTo cpos (starEach es X.env)).any (·.1) = false := by rfl) :
    PE X (.Call (.Attribute o name apos) (e :: es) [] cpos) (tBM K T r to t) := hK ▸ pe_bm pa slot hty hm ho ha hbase hfew hline hs hplain
def rCntT (K : PySem.W.Frag) : V → List V → Hp → VK → Prop := fun x xs H Q => ∃ (p : Addr) (ns : List Int) (k : Int), x = .ref p ∧ xs = [.int k] ∧ SqT K H p (ns.map V.int) ∧ Q (.int (ns.count k : Nat)) H
theorem mt_tcount : MtR X "tuple.count" (rCntT X.K) := by
  intro pins s σ H x xs v us Q I rx rxs h
  obtain ⟨p, ns, k, rfl, rfl, hs, q⟩ := h
  cases rx
  obtain ⟨u, rfl, ru⟩ := rxs.one
  obtain ⟨t, rfl⟩ := ru
  obtain ⟨its, rv, ⟨⟨cls, dd, data, sl⟩, ho, hc, n, hd⟩, hlen⟩ := I.tuple hs
  simp only at hc hd
  subst hc hd
  have hi := ints_of_vals rv
  refine call_meets PySem.F.slot_tuple_count ⟨_, ho, rfl⟩ PySem.F.entry_tuple_count (PySem.F.args_tuple_count_2 _ _)
    (SeqAt.tuple_countAt p its.toArray n dd sl (.int k t) (eqk k)) ⟨ho, fun y hy => (eqk_gives hi y (by simpa using hy)).at _ _, ?_⟩
  have ec : its.toArray.toList.countP (eqk k) = ns.count k := eqk_count hi
  refine ⟨.int (ns.count k : Nat), H, I.tok _, ⟨s.toks, ?_⟩, q⟩
  show Value.int ((its.toArray.toList.countP (eqk k) : Nat) : Int) s.toks = Value.int ((ns.count k : Nat) : Int) s.toks
  rw [ec]
end
section
variable {c : Cz} {ρ ρ1 ρ2 : List Sl} {ta tb te : TE} {d : PyData}
theorem ed_tcount {l : List Int} {k : Int} (ha : Ed c ρ ta (.tuple (l.map .int)) ρ1) (hb : Ed c ρ1 tb (.int k) ρ2) : Ed c ρ (tBMT c.K (rCntT c.K) ta (tCons tb tNil)) (.int ((l.count k : Nat) : Int)) ρ2 := fun T σ H W Q q => ha T σ H W _ fun v H1 W1 => by
  obtain ⟨a, xs, rfl, hs, h2⟩ := dp_tup W1.dp
  refine ⟨⟨a, xs, rfl, ex_p (hide_ex _ _) hs⟩, hb _ σ H1 W1 _ fun w H2 W2 => ?_⟩
  obtain ⟨a', xs', e, hs', h2'⟩ := dp_tup W2.pop.dp
  cases e
  have := dpaInts h2'
  subst this
  exact ⟨a, l, k, rfl, by rw [dp_int W2.dp], (ex_p (hide_ex _ _) hs').sq, q _ H2 (W2.pop.pop.push (.int _))⟩
def rCntL (K : PySem.W.Frag) := rCntI K
theorem ed_lcount {l : List Int} {k : Int} (ha : Ed c ρ ta (.list (l.map .int)) ρ1) (hb : Ed c ρ1 tb (.int k) ρ2) : Ed c ρ (tBM c.K "list" (rCntI c.K) ta (tCons tb tNil)) (.int ((l.count k : Nat) : Int)) ρ2 := fun T σ H W Q q => ha T σ H W _ fun v H1 W1 => by
  obtain ⟨a, xs, rfl, hs, h2⟩ := dp_lst W1.dp
  refine ⟨.inl ⟨rfl, xs, ex_l (hide_ex _ _) hs⟩, hb _ σ H1 W1 _ fun w H2 W2 => ?_⟩
  obtain ⟨a', xs', e, hs', h2'⟩ := dp_lst W2.pop.dp
  cases e
  have := dpaInts h2'
  subst this
  exact ⟨a, l, k, rfl, by rw [dp_int W2.dp], ex_l (hide_ex _ _) hs', q _ H2 (W2.pop.pop.push (.int _))⟩
end
end Nz

/-! data that can be shown and compared -/
namespace Nz
open PySem PySem.Spec PyProof.Rows L2 RZ
/-- no deeper than k, shown in len letters, parts below 2 ^ 1900 -/
structure Gd (k len : Nat) (d : PyData) : Prop where
  lay : d.canLay0 = true
  sh : d.showable = true
  dep : d.depth ≤ k
  len : d.shown.length ≤ len
theorem Gd.mono {k l k' l' : Nat} {d : PyData} (h : Gd k l d) (a : k ≤ k') (b : l ≤ l') : Gd k' l' d := ⟨h.lay, h.sh, Nat.le_trans h.dep a, Nat.le_trans h.len b⟩
theorem gd_show {k l : Nat} {d : PyData} (h : Gd k l d) (hk : k ≤ 60 := by decide) (hl : l ≤ 16000000 := by decide) : showOk d := ⟨h.sh, PyData.hasDict_of_canLay d h.lay, Nat.le_trans h.dep hk, Nat.le_trans h.len (Nat.le_trans hl (by decide))⟩
theorem gd_shaped {k l : Nat} {d : PyData} (h : Gd k l d) (hk : k ≤ 60 := by decide) : SeqAt.shaped d = true := by
  unfold SeqAt.shaped
  rw [h.lay]
  exact decide_eq_true (Nat.le_trans h.dep (Nat.le_trans hk (by decide)))
theorem pow_1900 : (2 : Nat) ^ 1900 < 10 ^ 600 := by decide +kernel
theorem gd_int {i : Int} (h : i.natAbs < 2 ^ 1900) : Gd 0 601 (.int i) := by
  refine ⟨rfl, ?_, Nat.le_refl _, ?_⟩
  · show decide (i.natAbs.log2 < 1920) = true
    refine decide_eq_true ?_
    by_cases z : i.natAbs = 0
    · rw [z]; decide
    · have := (Nat.log2_lt z).mpr h
      omega
  · have e := PySem.int_text_length_le10 (k := 600) (by decide) (Nat.lt_trans h pow_1900)
    show (Str.ofString (toString i)).length ≤ 601
    rw [PySem.ofString_length]; exact e
theorem gd_bool (b : Bool) : Gd 0 601 (.bool b) := ⟨rfl, rfl, Nat.le_refl _, by cases b <;> decide +kernel⟩
theorem gd_none : Gd 0 601 .none := ⟨rfl, rfl, Nat.le_refl _, by decide +kernel⟩
theorem gd_all {k l : Nat} : ∀ {ds : List PyData}, (∀ d ∈ ds, Gd k l d) → PyData.canLayAll0 ds = true ∧ PyData.showableAll ds = true ∧ PyData.depthAll ds ≤ k ∧ ((PyData.shownAll ds).map (·.length)).sum ≤ l * ds.length
  | [], _ => ⟨rfl, rfl, Nat.zero_le _, by simp [PyData.shownAll]⟩
  | d :: ds, h => by
    obtain ⟨a, b, c, e⟩ := gd_all fun x hx => h x (List.mem_cons_of_mem _ hx)
    obtain ⟨a', b', c', e'⟩ := h d (List.mem_cons_self ..)
    refine ⟨by rw [PyData.canLayAll0, a, a']; rfl, by rw [PyData.showableAll, b, b']; rfl, by rw [PyData.depthAll]; omega, ?_⟩
    rw [PyData.shownAll, List.map_cons, List.sum_cons, List.length_cons, Nat.mul_add]
    omega
theorem gd_list {k l n : Nat} {ds : List PyData} (h : ∀ d ∈ ds, Gd k l d) (hn : ds.length ≤ n) : Gd (k + 1) ((l + 2) * n + 3) (.list ds) := by
  obtain ⟨a, b, c, e⟩ := gd_all h
  refine ⟨by rw [PyData.canLay0]; exact a, by rw [PyData.showable]; exact b, by rw [PyData.depth]; omega, ?_⟩
  have t := listText_len_le (PyData.shownAll ds)
  rw [PyData.shownAll_length] at t
  have e2 : (PyData.list ds).shown = listText (PyData.shownAll ds) := by rw [PyData.shown]
  rw [e2]
  refine Nat.le_trans t ?_
  have : (l + 2) * ds.length ≤ (l + 2) * n := Nat.mul_le_mul_left _ hn
  rw [Nat.add_mul] at this
  omega
theorem gd_tuple {k l n : Nat} {ds : List PyData} (h : ∀ d ∈ ds, Gd k l d) (hn : ds.length ≤ n) : Gd (k + 1) ((l + 2) * n + 3) (.tuple ds) := by
  obtain ⟨a, b, c, e⟩ := gd_all h
  refine ⟨by rw [PyData.canLay0]; exact a, by rw [PyData.showable]; exact b, by rw [PyData.depth]; omega, ?_⟩
  have t := tupleText_len_le (PyData.shownAll ds)
  rw [PyData.shownAll_length] at t
  have e2 : (PyData.tuple ds).shown = tupleText (PyData.shownAll ds) := by rw [PyData.shown]
  rw [e2]
  refine Nat.le_trans t ?_
  have : (l + 2) * ds.length ≤ (l + 2) * n := Nat.mul_le_mul_left _ hn
  rw [Nat.add_mul] at this
  omega
theorem gd_Q {r : Rat} (h : r.num.natAbs < 2 ^ 1900) (h2 : r.den < 2 ^ 1900) : Gd 1 1209 (eQ r) :=
  gd_tuple (k := 0) (l := 601) (n := 2) (fun d hd => by
    simp only [List.mem_cons, List.mem_singleton, List.not_mem_nil, or_false] at hd
    rcases hd with rfl | rfl
    · exact gd_int h
    · exact gd_int (show ((r.den : Int)).natAbs < 2 ^ 1900 from h2)) (Nat.le_refl _)
theorem gd_L {α : Type} {f : α → PyData} {l : List α} {k len n : Nat} (h : ∀ x ∈ l, Gd k len (f x)) (hn : l.length ≤ n) : Gd (k + 1) ((len + 2) * n + 3) (eL f l) :=
  gd_list (fun d hd => by obtain ⟨x, hx, rfl⟩ := List.mem_map.mp hd; exact h x hx) (by rw [List.length_map]; exact hn)
theorem gd_T {α : Type} {f : α → PyData} {l : List α} {k len n : Nat} (h : ∀ x ∈ l, Gd k len (f x)) (hn : l.length ≤ n) : Gd (k + 1) ((len + 2) * n + 3) (eT f l) :=
  gd_tuple (fun d hd => by obtain ⟨x, hx, rfl⟩ := List.mem_map.mp hd; exact h x hx) (by rw [List.length_map]; exact hn)
theorem same_ret {k l : Nat} {a b : PyData} (e : a = b) (h : Gd k l a) : PyData.bool (PyData.eqv a b && decide (PyData.shown a = PyData.shown b)) = PyData.bool true := by
  subst e
  rw [SeqAt.eqv_refl a h.lay]
  simp
section
variable {c : Cz} {ρ ρ1 ρ2 : List Sl} {ta tb te : TE} {d : PyData}
theorem ed_eqS {x y : Str} (ha : Ed c ρ ta (.str x) ρ1) (hb : Ed c ρ1 tb (.str y) ρ2) : Ed c ρ (tOp rEq ta tb) (.bool (decide (x = y))) ρ2 :=
  ed_op ha hb fun T σ H v w W hx hy Q q => by
    rw [dp_str hx, dp_str hy]
    refine ⟨rfl, ?_⟩
    have e : decide (V.str x = V.str y) = decide (x = y) := by simp
    rw [e]
    exact q _ H (W.push (.bl _))
theorem ed_neS {x y : Str} (ha : Ed c ρ ta (.str x) ρ1) (hb : Ed c ρ1 tb (.str y) ρ2) : Ed c ρ (tOp rNe ta tb) (.bool (!decide (x = y))) ρ2 :=
  ed_op ha hb fun T σ H v w W hx hy Q q => by
    rw [dp_str hx, dp_str hy]
    refine ⟨rfl, ?_⟩
    have e : decide (V.str x = V.str y) = decide (x = y) := by simp
    rw [e]
    exact q _ H (W.push (.bl _))
end
end Nz

/-! what may come out in many ways (draws from the script) -/
namespace Nz
open PySem PySem.Spec PyProof.Rows L2 RZ

def Ew {α : Type} (c : Cz) (ρ : List Sl) (te : TE) (f : α → PyData) (P : α → Prop) (ρ' : List Sl) : Prop := ∀ (T : Tm) (σ : L2.St) (H : Hp), Wd c T H σ ρ → ∀ Q : VK, (∀ x v H', P x → Wd c ((v, f x) :: T) H' σ ρ' → Q v H') → te σ H Q
def EwL {α : Type} (c : Cz) (ρ : List Sl) (te : TE) (g : α → List PyData) (P : α → Prop) (ρ' : List Sl) : Prop := ∀ (T : Tm) (σ : L2.St) (H : Hp), Wd c T H σ ρ → ∀ Q : VK,
  (∀ x p H', P x → c.B p = none → p ∉ hid c ρ' → MoOk c.K (p :: hid c ρ') H' p (.lst (g x)) → Wd (c.hidden p) T H' σ ρ' → Q (.ref p) H') → te σ H Q
def Ewt (c : Cz) (ρ : List Sl) (tt : TT) (P : Bool → Prop) (ρ' : List Sl) : Prop := ∀ (T : Tm) (σ : L2.St) (H : Hp), Wd c T H σ ρ → ∀ Q : Bool → Hp → Prop, (∀ b H', P b → Wd c T H' σ ρ' → Q b H') → tt σ H Q
def Ewa {α : Type} (c : Cz) (ρ : List Sl) (ta : TA) (as : α → List Ar) (P : α → Prop) (ρ' : List Sl) : Prop := ∀ (T : Tm) (σ : L2.St) (H : Hp), Wd c T H σ ρ → ∀ Q : List V → Hp → Prop,
  (∀ x vs H', P x → AA c.K (hide (hid c ρ') H') vs (as x) → Wd c T H' σ ρ' → Q vs H') → ta σ H Q
def Ewo (c : Cz) (ρ : List Sl) (to : TO) (P : Option Int → Prop) (ρ' : List Sl) : Prop := ∀ (T : Tm) (σ : L2.St) (H : Hp), Wd c T H σ ρ → ∀ Q : Option Int → Hp → Prop, (∀ o H', P o → Wd c T H' σ ρ' → Q o H') → to σ H Q

/-! #### slots put behind -/
def slA : Ar → Sl
  | .raw v => .vl v
  | .dat d => .da d
theorem muts_app {ρ : List Sl} {as : List Ar} : muts (ρ ++ as.map slA) = muts ρ := by
  unfold muts
  rw [List.filterMap_append]
  have : List.filterMap mutA (as.map slA) = [] := by
    rw [List.filterMap_eq_nil_iff]
    intro s hs
    obtain ⟨a, _, rfl⟩ := List.mem_map.mp hs
    cases a <;> rfl
  rw [this, List.append_nil]
theorem hid_app {c : Cz} {ρ : List Sl} {as : List Ar} : hid c (ρ ++ as.map slA) = hid c ρ := by
  show c.S0 ++ muts _ = c.S0 ++ muts _
  rw [muts_app]
theorem aa_get {K : PySem.W.Frag} {H : Hp} : ∀ {as : List Ar} {vs : List V}, AA K H vs as → ∀ (i : Nat) (s : Sl), (as.map slA)[i]? = some s → ∃ v, vs[i]? = some v ∧ (s = .vl v ∨ ∃ d, s = .da d ∧ Dz K H v d)
  | [], _, h, i, s, e => by simp at e
  | a :: as, _, h, 0, s, e => by
    cases h with
    | raw h => exact ⟨_, rfl, .inl (Option.some.inj e).symm⟩
    | dat h1 h => exact ⟨_, rfl, .inr ⟨_, (Option.some.inj e).symm, h1⟩⟩
  | a :: as, _, h, i + 1, s, e => by
    cases h with
    | raw h => exact aa_get h i s e
    | dat h1 h => exact aa_get h i s e
theorem aa_len {K : PySem.W.Frag} {H : Hp} : ∀ {as : List Ar} {vs : List V}, AA K H vs as → vs.length = as.length
  | [], _, h => by cases h; rfl
  | a :: as, _, h => by
    cases h with
    | raw h => exact congrArg (· + 1) (aa_len h)
    | dat h1 h => exact congrArg (· + 1) (aa_len h)
theorem Wd.ext {c : Cz} {T : Tm} {H : Hp} {σ : L2.St} {ρ : List Sl} {vs : List V} {as : List Ar} (W : Wd c T H σ ρ) (a : AA c.K (hide (hid c ρ) H) vs as) : Wd c T H (σ ++ vs.map some) (ρ ++ as.map slA) := by
  have nm : ∀ {i : Nat} {l : Bool} {b : Addr} {o : MO}, (ρ ++ as.map slA)[i]? = some (.mu l b o) → ρ[i]? = some (.mu l b o) := fun {i l b o} e => by
    by_cases hi : i < ρ.length
    · rwa [List.getElem?_append_left hi] at e
    · rw [List.getElem?_append_right (by omega)] at e
      obtain ⟨v, _, q | ⟨d, q, _⟩⟩ := aa_get a _ _ e <;> cases q
  refine ⟨?_, W.keep, W.sub, W.dom, ?_, fun i j l m b o u h1 h2 => W.inj i j l m b o u (nm h1) (nm h2), fun i b o h => W.ap i b o (nm h), fun i s e => ?_⟩
  · simp [W.len, aa_len a]
  · rw [hid_app]; exact W.tmp
  · rw [hid_app]
    have hl := W.len
    by_cases hi : i < ρ.length
    · rw [List.getElem?_append_left hi] at e
      rw [List.getElem?_append_left (by omega)]
      exact W.ok i s e
    · rw [List.getElem?_append_right (by omega)] at e
      rw [List.getElem?_append_right (by omega), hl, List.getElem?_map]
      obtain ⟨v, hv, q | ⟨d, q, dv⟩⟩ := aa_get a _ _ e
      · subst q; rw [hv]; exact rfl
      · subst q; rw [hv]; exact ⟨v, rfl, dv⟩
theorem Wd.cut {c : Cz} {T : Tm} {H : Hp} {σ τ : L2.St} {ρ : List Sl} {as : List Ar} (W : Wd c T H (σ ++ τ) (ρ ++ as.map slA)) (hl : σ.length = ρ.length) : Wd c T H σ ρ := by
  have up : ∀ {i : Nat} {s : Sl}, ρ[i]? = some s → (ρ ++ as.map slA)[i]? = some s := fun {i s} e => by
    rw [List.getElem?_append_left (List.getElem?_eq_some_iff.mp e).1]; exact e
  refine ⟨hl, W.keep, W.sub, W.dom, ?_, fun i j l m b o u h1 h2 => W.inj i j l m b o u (up h1) (up h2), fun i b o h => W.ap i b o (up h), fun i s e => ?_⟩
  · have := W.tmp; rw [hid_app] at this; exact this
  · have ok := W.ok i s (up e)
    have hi := (List.getElem?_eq_some_iff.mp e).1
    rw [hid_app, List.getElem?_append_left (by omega)] at ok
    exact ok

section
variable {c : Cz} {ρ ρ1 ρ2 ρ3 : List Sl} {ta tb te tx : TE} {t u : TT} {d d1 d2 d3 : PyData} {T : Tm} {H H' : Hp} {σ : L2.St}
variable {α β γ : Type} {f : α → PyData} {g : β → PyData} {e : γ → PyData} {P : α → Prop} {P2 : β → Prop} {P3 : γ → Prop}
theorem ew_det {x : α} (h : Ed c ρ te (f x) ρ1) : Ew c ρ te f (fun y => y = x) ρ1 := fun T σ H W Q q => h T σ H W Q fun v H1 W1 => q x v H1 rfl W1
theorem ew_imp {R : α → Prop} (h : Ew c ρ te f P ρ1) (i : ∀ x, P x → R x) : Ew c ρ te f R ρ1 := fun T σ H W Q q => h T σ H W Q fun x v H1 px W1 => q x v H1 (i x px) W1
theorem ew_as {R : β → Prop} (h : Ew c ρ te f P ρ1) (i : ∀ x, P x → ∃ y, R y ∧ f x = g y) : Ew c ρ te g R ρ1 := fun T σ H W Q q => h T σ H W Q fun x v H1 px W1 => by
  obtain ⟨y, hy, e⟩ := i x px
  rw [e] at W1
  exact q y v H1 hy W1
theorem ewt_det {b : Bool} (h : Et c ρ t b ρ1) : Ewt c ρ t (fun y => y = b) ρ1 := fun T σ H W Q q => h T σ H W Q fun H1 W1 => q b H1 rfl W1
theorem ewl_det {x : α} {f : α → List PyData} (h : EdL c ρ te (f x) ρ1) : EwL c ρ te f (fun y => y = x) ρ1 := fun T σ H W Q q => h T σ H W Q fun p H1 h1 h2 h3 W1 => q x p H1 rfl h1 h2 h3 W1
theorem ew_L {f : α → List PyData} (h : EwL c ρ te f P ρ1) : Ew c ρ te (fun x => .list (f x)) P ρ1 := fun T σ H W Q q => h T σ H W Q fun x p H' px hB hn hm W' => by
  have W2 := W'.unhide W.sub
  obtain ⟨xs, h1, h2⟩ := hm
  have e2 : Ex (hide (p :: hid c ρ1) H') (hide (hid c ρ1) H') := hide_mono fun a o n h => ⟨fun m => n (List.mem_cons_of_mem _ m), h⟩
  exact q x _ H' px (W2.push (.lst (sq_of (hide_of hn h1)) (dpam e2 h2)))
/-- an operator: as for data that is known -/
theorem ew_op {r : R2} {F : α → β → γ} (ha : Ew c ρ ta f P ρ1) (hb : Ew c ρ1 tb g P2 ρ2)
    (h : ∀ x y, P x → P2 y → ∀ (ρ : List Sl) (ta tb : TE), Ed c ρ ta (f x) ρ → Ed c ρ tb (g y) ρ → Ed c ρ (tOp r ta tb) (e (F x y)) ρ) : Ew c ρ (tOp r ta tb) e (fun z => ∃ x y, P x ∧ P2 y ∧ z = F x y) ρ2 :=
  fun T σ H W Q q => ha T σ H W _ fun x v H1 px W1 => hb _ σ H1 W1 _ fun y w H2 py W2 => by
    have hl := W2.len
    have W3 := W2.ext (as := [.dat (f x), .dat (g y)]) (.dat W2.pop.dp (.dat W2.dp .nil))
    obtain ⟨v', e1, w', e2, k⟩ := h x y px py (ρ2 ++ [.dat (f x), .dat (g y)].map slA) (tVar ρ2.length) (tVar (ρ2.length + 1)) (ed_var (by simp [slA])) (ed_var (by rw [List.getElem?_append_right (by omega)]; simp [slA])) _ _ H2 W3 Q
      (fun z H' W4 => q _ z H' ⟨x, y, px, py, rfl⟩ ((W4.cut hl).tmps fun p hp => by
        rcases List.mem_cons.mp hp with e | m
        · rw [e]; exact List.mem_cons_self ..
        · exact List.mem_cons_of_mem _ (List.mem_cons_of_mem _ (List.mem_cons_of_mem _ m))))
    rw [List.getElem?_append_right (by omega)] at e1 e2
    rw [show ρ2.length - σ.length = 0 by omega] at e1
    rw [show ρ2.length + 1 - σ.length = 1 by omega] at e2
    cases e1; cases e2
    exact k
theorem ewl_op {r : R2} {F : α → β → γ} {e : γ → List PyData} (ha : Ew c ρ ta f P ρ1) (hb : Ew c ρ1 tb g P2 ρ2)
    (h : ∀ x y, P x → P2 y → ∀ (ρ : List Sl) (ta tb : TE), Ed c ρ ta (f x) ρ → Ed c ρ tb (g y) ρ → EdL c ρ (tOp r ta tb) (e (F x y)) ρ) : EwL c ρ (tOp r ta tb) e (fun z => ∃ x y, P x ∧ P2 y ∧ z = F x y) ρ2 :=
  fun T σ H W Q q => ha T σ H W _ fun x v H1 px W1 => hb _ σ H1 W1 _ fun y w H2 py W2 => by
    have hl := W2.len
    have W3 := W2.ext (as := [.dat (f x), .dat (g y)]) (.dat W2.pop.dp (.dat W2.dp .nil))
    obtain ⟨v', e1, w', e2, k⟩ := h x y px py (ρ2 ++ [.dat (f x), .dat (g y)].map slA) (tVar ρ2.length) (tVar (ρ2.length + 1)) (ed_var (by simp [slA])) (ed_var (by rw [List.getElem?_append_right (by omega)]; simp [slA])) _ _ H2 W3 Q
      (fun p H' h1 h2 h3 W4 => by
        rw [hid_app] at h2 h3
        exact q _ p H' ⟨x, y, px, py, rfl⟩ h1 h2 h3 ((W4.cut hl).pop.pop))
    rw [List.getElem?_append_right (by omega)] at e1 e2
    rw [show ρ2.length - σ.length = 0 by omega] at e1
    rw [show ρ2.length + 1 - σ.length = 1 by omega] at e2
    cases e1; cases e2
    exact k
/-- anything of one part: G te = te, then k -/
theorem ew_1 {G : TE → TE} {k : V → L2.St → Hp → VK → Prop} {F : α → γ} (hG : ∀ te σ H Q, G te σ H Q = te σ H fun v H' => k v [] H' Q) (ha : Ew c ρ ta f P ρ1)
    (h : ∀ x, P x → ∀ (ρ : List Sl) (ta : TE), Ed c ρ ta (f x) ρ → Ed c ρ (G ta) (e (F x)) ρ) : Ew c ρ (G ta) e (fun z => ∃ x, P x ∧ z = F x) ρ1 :=
  fun T σ H W Q q => by
    rw [hG]
    refine ha T σ H W _ fun x v H1 px W1 => ?_
    have hl := W1.len
    have W3 := W1.ext (as := [.dat (f x)]) (.dat W1.dp .nil)
    have k := h x px (ρ1 ++ [.dat (f x)].map slA) (tVar ρ1.length) (ed_var (by simp [slA])) _ _ H1 W3 Q
      (fun z H' W4 => q _ z H' ⟨x, px, rfl⟩ ((W4.cut hl).tmps fun p hp => by
        rcases List.mem_cons.mp hp with e | m
        · rw [e]; exact List.mem_cons_self ..
        · exact List.mem_cons_of_mem _ (List.mem_cons_of_mem _ m)))
    rw [hG] at k
    obtain ⟨v', e1, k⟩ := k
    rw [List.getElem?_append_right (by omega)] at e1
    rw [show ρ1.length - σ.length = 0 by omega] at e1
    cases e1
    exact k
theorem ewl_1 {G : TE → TE} {k : V → L2.St → Hp → VK → Prop} {F : α → γ} {e : γ → List PyData} (hG : ∀ te σ H Q, G te σ H Q = te σ H fun v H' => k v [] H' Q) (ha : Ew c ρ ta f P ρ1)
    (h : ∀ x, P x → ∀ (ρ : List Sl) (ta : TE), Ed c ρ ta (f x) ρ → EdL c ρ (G ta) (e (F x)) ρ) : EwL c ρ (G ta) e (fun z => ∃ x, P x ∧ z = F x) ρ1 :=
  fun T σ H W Q q => by
    rw [hG]
    refine ha T σ H W _ fun x v H1 px W1 => ?_
    have hl := W1.len
    have W3 := W1.ext (as := [.dat (f x)]) (.dat W1.dp .nil)
    have k := h x px (ρ1 ++ [.dat (f x)].map slA) (tVar ρ1.length) (ed_var (by simp [slA])) _ _ H1 W3 Q
      (fun p H' h1 h2 h3 W4 => by
        rw [hid_app] at h2 h3
        exact q _ p H' ⟨x, px, rfl⟩ h1 h2 h3 ((W4.cut hl).pop))
    rw [hG] at k
    obtain ⟨v', e1, k⟩ := k
    rw [List.getElem?_append_right (by omega)] at e1
    rw [show ρ1.length - σ.length = 0 by omega] at e1
    cases e1
    exact k
theorem ew_cb1 {r : List V → Hp → VK → Prop} {F : α → γ} (ha : Ew c ρ ta f P ρ1) (h : ∀ x, P x → ∀ (ρ : List Sl) (ta : TE), Ed c ρ ta (f x) ρ → Ed c ρ (tCB r (tCons ta tNil)) (e (F x)) ρ) :
    Ew c ρ (tCB r (tCons ta tNil)) e (fun z => ∃ x, P x ∧ z = F x) ρ1 :=
  ew_1 (G := fun ta => tCB r (tCons ta tNil)) (k := fun v _ H Q => r [v] H Q) (fun _ _ _ _ => rfl) ha h
theorem ewl_cb1 {r : List V → Hp → VK → Prop} {F : α → γ} {e : γ → List PyData} (ha : Ew c ρ ta f P ρ1) (h : ∀ x, P x → ∀ (ρ : List Sl) (ta : TE), Ed c ρ ta (f x) ρ → EdL c ρ (tCB r (tCons ta tNil)) (e (F x)) ρ) :
    EwL c ρ (tCB r (tCons ta tNil)) e (fun z => ∃ x, P x ∧ z = F x) ρ1 :=
  ewl_1 (G := fun ta => tCB r (tCons ta tNil)) (k := fun v _ H Q => r [v] H Q) (fun _ _ _ _ => rfl) ha h
/-! #### arguments, displays, calls -/
theorem ewa_det {x : α} {as : α → List Ar} {ts : TA} (h : Ea c ρ ts (as x) ρ1) : Ewa c ρ ts as (fun y => y = x) ρ1 := fun T σ H W Q q => h T σ H W Q fun v H1 a W1 => q x v H1 rfl a W1
theorem ewa_nil : Ewa c ρ tNil (fun (_ : Unit) => []) (fun _ => True) ρ := fun T σ H W Q q => q () [] H trivial .nil W
theorem ewa_cons {ts : TA} {as : β → List Ar} (h : Ew c ρ te f P ρ1) (hr : Ewa c ρ1 ts as P2 ρ2) : Ewa c ρ (tCons te ts) (fun p : α × β => .dat (f p.1) :: as p.2) (fun p => P p.1 ∧ P2 p.2) ρ2 := fun T σ H W Q q =>
  h T σ H W _ fun x v H1 px W1 => hr _ σ H1 W1 _ fun y vs H2 py a W2 => q (x, y) _ H2 ⟨px, py⟩ (.dat W2.dp a) W2.pop
theorem ewa_raw {ts : TA} {as : α → List Ar} {i : Nat} {a : Addr} {l : Bool} {o : MO} (h : ρ[i]? = some (.mu l a o)) (hr : Ewa c ρ ts as P ρ2) : Ewa c ρ (tCons (tVar i) ts) (fun x => .raw (.ref a) :: as x) P ρ2 := fun T σ H W Q q =>
  ⟨.ref a, (W.ok i _ h).1, hr T σ H W _ fun x vs H2 px a W2 => q x _ H2 px (.raw a) W2⟩
theorem ew_tup {ts : TA} {ds : α → List PyData} {n : Nat} (h : Ewa c ρ ts (fun x => (ds x).map .dat) P ρ1) (hn : ∀ x, (ds x).length = n) (hl : Nat.ble n 100000 = true := by rfl) : Ew c ρ (tTupF ts) (fun x => .tuple (ds x)) P ρ1 := fun T σ H W Q q =>
  h T σ H W _ fun x vs H1 px a W1 => ⟨dpa_sz (aa_dats a) (by rw [hn]; exact Nat.le_of_ble_eq_true hl), fun p o z hp => q x _ _ px (tup_new W1 (aa_dats a) z hp)⟩
theorem ewl_lst {ts : TA} {ds : α → List PyData} {n : Nat} (h : Ewa c ρ ts (fun x => (ds x).map .dat) P ρ1) (hn : ∀ x, (ds x).length = n) (hl : Nat.ble n 100000 = true := by rfl) : EwL c ρ (tLst ts) ds P ρ1 := fun T σ H W Q q =>
  h T σ H W _ fun x vs H1 px a W1 => ⟨dpa_sz (aa_dats a) (by rw [hn]; exact Nat.le_of_ble_eq_true hl), fun p hp => by
    obtain ⟨x1, x2, x3, x4⟩ := el_new W1 (aa_dats a) hp
    exact q x p _ px x1 x2 x3 x4⟩
theorem ew_call {R : List PyData → PyData → Prop} {ts : TA} {ds : α → List PyData} {E : XK} {F : α → γ} (h : Ewa c ρ ts (fun x => (ds x).map .dat) P ρ1) (hR : ∀ x, P x → R (ds x) (e (F x))) :
    Ew c ρ (tCall (SpP c.K R) [] E ts) e (fun z => ∃ x, P x ∧ z = F x) ρ1 := fun T σ H W Q q => h T σ H W _ fun x vs H1 px a W1 => by
  rw [List.append_nil]
  exact ⟨hid c ρ1, ds x, e (F x), fun a h => W1.there h, aa_dats a, hR x px, fun v H' e dp => q _ v H' ⟨x, px, rfl⟩ ((W1.grow e).push dp)⟩
/-! #### the state that draws come from -/
/-- a list of four: the script, what is left of the cell, the place, the seed -/
def StOk (ds : List PyData) : Prop := ∃ (l : List Int) (cur pos seed : Nat), ds = [.list (l.map .int), .int (cur : Int), .int (pos : Int), .int (seed : Int)]
/-- a def that draws: its first argument is the state; Φ: what may come out -/
def SpW (K : PySem.W.Frag) (R : List PyData → (PyData → Prop) → Prop) : Sp := fun vs H Q _ => ∃ (S : List Addr) (a : Addr) (vs' : List V) (ds : List PyData) (Φ : PyData → Prop), vs = .ref a :: vs' ∧ a ∈ S ∧ (∀ b ∈ S, ∃ o, H b = some o) ∧
  MoOk K S H a (.any StOk) ∧ DzAll K (hide S H) vs' ds ∧ R ds Φ ∧ ∀ d v H', Φ d → (∀ b o, b ≠ a → H b = some o → H' b = some o) → MoOk K S H' a (.any StOk) → Dz K (hide S H') v d → Q v H'
theorem set_same {ρ : List Sl} {i : Nat} {s : Sl} (h : ρ[i]? = some s) : ρ.set i s = ρ := by
  apply List.ext_getElem?
  intro k
  by_cases q : i = k
  · subst q
    rw [List.getElem?_set_self (List.getElem?_eq_some_iff.mp h).1, h]
  · rw [List.getElem?_set_ne q]
theorem ew_callW {R : List PyData → (PyData → Prop) → Prop} {ts : TA} {ds : α → List PyData} {E : XK} {i : Nat} {l : Bool} {a : Addr} {P3 : α → γ → Prop} (h : Ewa c ρ ts (fun x => .raw (.ref a) :: (ds x).map .dat) P ρ1) (hi : ρ1[i]? = some (.mu l a (.any StOk)))
    (hR : ∀ x, P x → R (ds x) (fun d => ∃ z, P3 x z ∧ d = e z)) : Ew c ρ (tCall (SpW c.K R) [] E ts) e (fun z => ∃ x, P x ∧ P3 x z) ρ1 := fun T σ H W Q q => h T σ H W _ fun x vs H1 px aa W1 => by
  rw [List.append_nil]
  cases aa with
  | raw aa =>
    have hm : a ∈ hid c ρ1 := List.mem_append_right _ (mem_muts.mpr ⟨i, l, _, hi⟩)
    refine ⟨hid c ρ1, a, _, ds x, _, rfl, hm, fun a h => W1.there h, (W1.ok i _ hi).2.2, aa_dats aa, hR x px, fun d v H' ⟨z, hz, ed⟩ hk mo dp => ?_⟩
    subst ed
    have W2 := W1.chg hi hk mo
    rw [set_same hi] at W2
    exact q z v H' ⟨x, px, hz⟩ (W2.push dp)
/-! #### tests -/
theorem ew_ite {ca cb : Bool → Prop} (h : Ewt c ρ t ca ρ1) {f : α → PyData} {P P2 : α → Prop} (h1 : ca true → Ew c ρ1 ta f P ρ2) (h2 : ca false → Ew c ρ1 tb f P2 ρ2) : Ew c ρ (tIf t ta tb) f (fun x => (ca true ∧ P x) ∨ (ca false ∧ P2 x)) ρ2 := fun T σ H W Q q => h T σ H W _ fun b H1 hb W1 => by
  cases b with
  | true => exact h1 hb T σ H1 W1 Q fun x v H2 px W2 => q x v H2 (.inl ⟨hb, px⟩) W2
  | false => exact h2 hb T σ H1 W1 Q fun x v H2 px W2 => q x v H2 (.inr ⟨hb, px⟩) W2
theorem ewt_test {P3' : Bool → Prop} (h : Ew c ρ te (fun b => .bool b) P3' ρ1) : Ewt c ρ (tTest te) P3' ρ1 := fun T σ H W Q q => h T σ H W _ fun b v H1 pb W1 => ⟨b, dp_bl W1.dp, q b H1 pb W1.pop⟩
theorem ewt_tru {R : Bool → Prop} (h : Ew c ρ te f P ρ1) (ok : ∀ x, P x → truOk (f x) = true) (hR : ∀ x, P x → R (truD (f x))) : Ewt c ρ (fun σ H Q => te σ H fun x H' => ∃ k, TruV c.K x H' k ∧ Q k H') R ρ1 := fun T σ H W Q q => h T σ H W _ fun x v H1 px W1 =>
  ⟨_, tru_dp (dpm (hide_ex _ _) W1.dp) (ok x px), q _ H1 (hR x px) W1.pop⟩
theorem ewt_and {A B : Bool → Prop} (h1 : Ewt c ρ t A ρ1) (h2 : A true → Ewt c ρ1 u B ρ1) : Ewt c ρ (tAnd t u) (fun b => (A false ∧ b = false) ∨ (A true ∧ B b)) ρ1 := fun T σ H W Q q => h1 T σ H W _ fun a H1 ha W1 => by
  cases a with
  | true => exact h2 ha T σ H1 W1 Q fun b H2 hb W2 => q b H2 (.inr ⟨ha, hb⟩) W2
  | false => exact q false H1 (.inl ⟨ha, rfl⟩) W1
theorem ewt_or {A B : Bool → Prop} (h1 : Ewt c ρ t A ρ1) (h2 : A false → Ewt c ρ1 u B ρ1) : Ewt c ρ (tOr t u) (fun b => (A true ∧ b = true) ∨ (A false ∧ B b)) ρ1 := fun T σ H W Q q => h1 T σ H W _ fun a H1 ha W1 => by
  cases a with
  | true => exact q true H1 (.inl ⟨ha, rfl⟩) W1
  | false => exact h2 ha T σ H1 W1 Q fun b H2 hb W2 => q b H2 (.inr ⟨ha, hb⟩) W2
theorem ewt_not {A : Bool → Prop} (h1 : Ewt c ρ t A ρ1) : Ewt c ρ (tNot t) (fun b => A (!b)) ρ1 := fun T σ H W Q q => h1 T σ H W _ fun a H1 ha W1 => q _ H1 (by show A (!(!a)); rw [Bool.not_not]; exact ha) W1
theorem ewt_imp {A B : Bool → Prop} (h : Ewt c ρ t A ρ1) (i : ∀ b, A b → B b) : Ewt c ρ t B ρ1 := fun T σ H W Q q => h T σ H W Q fun b H1 hb W1 => q b H1 (i b hb) W1
theorem ew_and {A B : Bool → Prop} (h1 : Ew c ρ ta (fun b => .bool b) A ρ1) (h2 : A true → Ew c ρ1 tb (fun b => .bool b) B ρ1) : Ew c ρ (tAndV ta tb) (fun b => .bool b) (fun b => (A false ∧ b = false) ∨ (A true ∧ B b)) ρ1 := fun T σ H W Q q => h1 T σ H W _ fun a v H1 ha W1 => ⟨a, dp_bl W1.dp, by
  cases a with
  | true => exact h2 ha T σ H1 W1.pop Q fun b v H2 hb W2 => q b v H2 (.inr ⟨ha, hb⟩) W2
  | false => exact q false _ H1 (.inl ⟨ha, rfl⟩) (W1.pop.push (.bl _))⟩
/-! #### walks, comprehensions -/
def Eiw {α : Type} (c : Cz) (ρ : List Sl) (wi : TI) (its : α → List Itm) (P : α → Prop) (ρ' : List Sl) : Prop := ∀ (T : Tm) (σ : L2.St) (H : Hp), Wd c T H σ ρ → ∀ R : It → Hp → Prop, (∀ x J H' T1, P x → Wd c (T1 ++ T) H' σ ρ' → Walks c.K J T1 (its x) → R J H') → wi σ H R
theorem eiw_det {wi : TI} {its : α → List Itm} {x : α} (h : Ei c ρ wi (its x) ρ1) : Eiw c ρ wi its (fun y => y = x) ρ1 := fun T σ H W R q => h T σ H W R fun J H1 T1 W1 hw => q x J H1 T1 rfl W1 hw
theorem eiw_rng {P : Int → Prop} (h : Ew c ρ te PyData.int P ρ1) (hn : ∀ n, P n → -4000000000 ≤ n ∧ n ≤ 4000000000) : Eiw c ρ (iRng1 (tCons te tNil)) (fun n : Int => (List.range n.toNat).map fun (i : Nat) => Itm.hard (PyData.int (i : Int))) P ρ1 := fun T σ H W R q => h T σ H W _ fun n v H1 pn W1 => by
  have hh := hn n pn
  refine ⟨n, by rw [dp_int W1.dp], by omega, by omega, ?_⟩
  refine q n _ H1 [] pn W1.pop ?_
  have := walks_rng c.K 0 n.toNat
  unfold hards rngD at this
  simp only [Int.zero_add, List.map_map] at this
  exact this
/-- a comprehension, by what holds of the items so far -/
theorem el_lcN {wi : TI} {g : TG} {tt : TT} {vs : List Nat} {its : α → List Itm} (h : Eiw c ρ wi its P ρ1) (J : α → Nat → List PyData → Prop) (hJ : ∀ x, P x → J x 0 []) (hsz : ∀ x, P x → (its x).length ≤ 100000) (hvs : ∀ j ∈ vs, ρ1[j]? = some .no)
    (turn : ∀ (S : List Addr) (B : Hp) (x : α) (i : Nat) (d : Itm) (acc : List PyData), P x → (its x)[i]? = some d → J x i acc → ∃ (ρa : List Sl) (bp : Bool → Prop), Nz.wipeS ρa vs = ρ1 ∧ Eg (c.at S B) g d ρ1 ρa vs ∧ Ewt (c.at S B) ρa tt bp ρa ∧
      (bp true → Ew (c.at S B) ρa te (fun d => d) (fun d' => J x (i + 1) (acc ++ [d'])) ρa) ∧ (bp false → J x (i + 1) acc)) : EwL c ρ (tLc wi g tt te vs) (fun l : List PyData => l) (fun l => ∃ x, P x ∧ J x (its x).length l) ρ1 := fun T σ H W Q q =>
  h T σ H W _ fun x It H1 T1 px W1 hw D hD => by
    have hB := W1.freshB hD
    have hsub := W1.sub
    have nS : D ∉ c.S0 := fun m => W1.fresh hD (List.mem_append_left _ m)
    have nM : D ∉ c.M := fun m => nS (hsub D m)
    obtain ⟨_, hDn, mo0, Wh⟩ := el_new W1 (.nil) hD
    have eP : ∀ {H2 : Hp}, Wd (c.hidden D) (T1 ++ T) H2 (L2.wipe σ vs) ρ1 → D ∉ hid c ρ1 := fun W2 => W2.notin nS hsub
    have hs := hsz x px
    refine ⟨fun i m H2 => i + m = (its x).length ∧ ∃ acc, acc.length ≤ i ∧ J x i acc ∧ Wd (c.hidden D) (T1 ++ T) H2 (L2.wipe σ vs) ρ1 ∧ MoOk c.K (D :: hid c ρ1) H2 D (.lst acc), ⟨(its x).length, by omega, [], Nat.le_refl _, hJ x px, Wh.wipe hvs, mo0⟩, fun i m H2 ⟨hm, acc, la, ja, W2, mo⟩ => ?_⟩
    by_cases hi : i < (its x).length
    · obtain ⟨xs, hxs, dxs⟩ := mo
      have lx := dpa_length dxs
      have W2a : Wd (c.at (D :: c.S0) (upd c.B D (.lst xs))) (T1 ++ T) H2 (L2.wipe σ vs) ρ1 := W2.pin hxs hB hsub nS
      have W2b : Wd (c.at (D :: c.S0) (upd c.B D (.lst xs))) (xs.zip acc ++ (T1 ++ T)) H2 (L2.wipe σ vs) ρ1 := W2a.pushAll dxs
      have W2c : Wd (c.at (D :: c.S0) (upd c.B D (.lst xs))) (T1 ++ (xs.zip acc ++ T)) H2 (L2.wipe σ vs) ρ1 := W2b.tmps fun p hp => by
        simp only [List.mem_append] at hp ⊢
        rcases hp with hp | hp | hp
        · exact .inr (.inl hp)
        · exact .inl hp
        · exact .inr (.inr hp)
      have hwk := hw (c.at (D :: c.S0) (upd c.B D (.lst xs))) _ _ _ _ rfl W2c
      refine .inr ⟨(hwk.1 i hi).1, fun H3 => ∃ acc, acc.length ≤ i + 1 ∧ J x (i + 1) acc ∧ Wd (c.hidden D) (T1 ++ T) H3 (L2.wipe σ vs) ρ1 ∧ MoOk c.K (D :: hid c ρ1) H3 D (.lst acc), fun H3 ⟨ac, h3⟩ => ⟨m - 1, by omega, by omega, ac, h3⟩, fun y H3 hy => ?_⟩
      obtain ⟨d, hd, W3⟩ := (hwk.1 i hi).2 y H3 hy
      obtain ⟨ρa, bp, hwp, g1, g2, g3, g4⟩ := turn (D :: c.S0) (upd c.B D (.lst xs)) x i d acc px hd ja
      refine g1 _ _ _ _ W3 _ fun σ2 H4 W4 ew => ⟨by rw [ew, wipe_wipe], g2 _ σ2 H4 W4 _ fun b H5 pb W5 => ?_⟩
      rw [wipe_wipe] at ew
      cases b with
      | true =>
        rw [if_pos rfl]
        refine g3 pb _ σ2 H5 W5 _ fun d' z H6 jz W6 => ?_
        have W7 := W6.wipeS vs
        rw [hwp, ew] at W7
        obtain ⟨hx6, W8⟩ := W7.unpin hB nM
        have hn8 := W8.notin nS hsub
        refine ⟨xs, hx6, Nat.lt_of_lt_of_le (show xs.length < 100000 by omega) (by decide), acc ++ [d'], by simp; omega, jz, ?_, ?_⟩
        · refine (W8.updHid hB hn8).tmps fun p hp => List.mem_cons_of_mem _ ?_
          simp only [List.mem_append] at hp ⊢
          rcases hp with hp | hp
          · exact .inl hp
          · exact .inr (.inr hp)
        · refine ⟨xs ++ [z], upd_same, ?_⟩
          have W9 := W8.updHid (u := .lst (xs ++ [z])) hB hn8
          have a1 : DzAll c.K (hide (hid (c.hidden D) ρ1) (upd H6 D (.lst (xs ++ [z])))) xs acc := Wd.allOf (T := (z, d') :: (T1 ++ T)) lx (W9.tmps fun p hp => by
            simp only [List.mem_append, List.mem_cons] at hp ⊢
            rcases hp with hp | hp | hp | hp
            · exact .inr (.inr (.inl hp))
            · exact .inl hp
            · exact .inr (.inl hp)
            · exact .inr (.inr (.inr hp)))
          exact dpa_append a1 (.cons (W9.tmp (z, d') (List.mem_cons_self ..)) .nil)
      | false =>
        rw [if_neg (by decide)]
        have W7 := W5.wipeS vs
        rw [hwp, ew] at W7
        obtain ⟨hx6, W8⟩ := W7.unpin hB nM
        refine ⟨acc, by omega, g4 pb, W8.tmps fun p hp => ?_, xs, hx6, ?_⟩
        · simp only [List.mem_append] at hp ⊢
          rcases hp with hp | hp
          · exact .inl hp
          · exact .inr (.inr hp)
        · exact Wd.allOf (T := T1 ++ T) lx (W8.tmps fun p hp => by
            simp only [List.mem_append, List.mem_cons] at hp ⊢
            rcases hp with hp | hp | hp
            · exact .inr (.inl hp)
            · exact .inl hp
            · exact .inr (.inr hp))
    · have ei : i = (its x).length := by omega
      subst ei
      refine .inl ⟨(hw (c.hidden D) T (L2.wipe σ vs) H2 ρ1 rfl W2).2 _ (Nat.le_refl _), ?_⟩
      have W4 : Wd (c.hidden D) T H2 (L2.wipe σ vs) ρ1 := W2.tmps fun p hp => List.mem_append_right _ hp
      exact q acc D H2 ⟨x, px, ja⟩ hB (eP W2) mo (W4.unwipe hvs)
/-- one for each item -/
inductive Fa {α β : Type} (R : α → β → Prop) : List α → List β → Prop
  | nil : Fa R [] []
  | cons {a : α} {b : β} {l : List α} {m : List β} : R a b → Fa R l m → Fa R (a :: l) (b :: m)
theorem Fa.len {R : α → β → Prop} {l : List α} {m : List β} (h : Fa R l m) : m.length = l.length := by
  induction h with
  | nil => rfl
  | cons _ _ ih => rw [List.length_cons, List.length_cons, ih]
theorem Fa.snoc {R : α → β → Prop} {l : List α} {m : List β} {a : α} {b : β} (h : Fa R l m) (r : R a b) : Fa R (l ++ [a]) (m ++ [b]) := by
  induction h with
  | nil => exact .cons r .nil
  | cons r' _ ih => exact .cons r' ih
theorem Fa.mem {R : α → β → Prop} {l : List α} {m : List β} (h : Fa R l m) : ∀ b ∈ m, ∃ a ∈ l, R a b := by
  induction h with
  | nil => intro b hb; cases hb
  | cons r _ ih =>
    intro b hb
    rcases List.mem_cons.mp hb with e | hb
    · subst e; exact ⟨_, List.mem_cons_self .., r⟩
    · obtain ⟨a, ha, r⟩ := ih b hb
      exact ⟨a, List.mem_cons_of_mem _ ha, r⟩
/-- all items, each made in its ways -/
theorem el_lcW {δ : Type} {wi : TI} {g : TG} {vs : List Nat} {xs : α → List δ} {ea : δ → Itm} {eb : γ → PyData} {R : α → δ → γ → Prop} (h : Eiw c ρ wi (fun a => (xs a).map ea) P ρ1) (hsz : ∀ x, P x → (xs x).length ≤ 100000) (hvs : ∀ j ∈ vs, ρ1[j]? = some .no)
    (turn : ∀ (S : List Addr) (B : Hp) (a : α) (x : δ), P a → x ∈ xs a → ∃ ρa, Nz.wipeS ρa vs = ρ1 ∧ Eg (c.at S B) g (ea x) ρ1 ρa vs ∧ Ew (c.at S B) ρa te eb (R a x) ρa) :
    EwL c ρ (tLc wi g tYes te vs) (fun l : List γ => l.map eb) (fun l => ∃ a, P a ∧ Fa (R a) (xs a) l) ρ1 := fun T σ H W Q q => by
  refine el_lcN (c := c) (tt := tYes) (te := te) (vs := vs) h (fun a i acc => ∃ l : List γ, acc = l.map eb ∧ Fa (R a) ((xs a).take i) l) (fun a _ => ⟨[], rfl, by rw [List.take_zero]; exact .nil⟩) (fun a pa => by rw [List.length_map]; exact hsz a pa) hvs (fun S B a i d acc pa hd ⟨l, hl, hf⟩ => ?_) T σ H W Q (fun l p H' ⟨a, pa, l', e, hf⟩ h1 h2 h3 W1 => ?_)
  · rw [List.getElem?_map] at hd
    cases hx : (xs a)[i]? with
    | none => rw [hx] at hd; cases hd
    | some x =>
      rw [hx] at hd
      have hd : ea x = d := Option.some.inj hd
      subst hd
      obtain ⟨ρa, hw, g1, g2⟩ := turn S B a x pa (List.mem_of_getElem? hx)
      refine ⟨ρa, fun b => b = true, hw, g1, fun T σ H W Q q => q true H rfl W, fun _ => ew_as g2 fun z hz => ⟨eb z, ⟨l ++ [z], by rw [hl, List.map_append]; rfl, ?_⟩, rfl⟩, fun e => by cases e⟩
      rw [List.take_add_one, hx]
      exact hf.snoc hz
  · subst e
    rw [List.length_map, List.take_length] at hf
    exact q l' p H' ⟨a, pa, hf⟩ h1 h2 h3 W1
/-! ### statements -/
variable {D : Ends} {ts tu : TS} {gt : TG} {nx bk ct : L2.St → Hp → Prop} {rt : VK}
theorem s_asgGW {ws : List Nat} {ρ2 : α → List Sl} (h : Ew c ρ te f P ρ1) (hg : ∀ x, P x → Eg c gt (.hard (f x)) ρ1 (ρ2 x) ws) (k : ∀ x, P x → Sk c T (ρ2 x) nx) : Ss c T ρ (tAsg te gt) ⟨nx, rt, bk, ct⟩ := fun σ H W => h T σ H W _ fun x v H1 px W1 => hg x px T σ H1 v W1 _ fun σ2 H2 W2 _ => k x px σ2 H2 W2
theorem s_asgW {i : Nat} (h : Ew c ρ te f P ρ1) (k : ∀ x, P x → Sk c T (ρ1.set i (.da (f x))) nx) : Ss c T ρ (tAsg te (gName i)) ⟨nx, rt, bk, ct⟩ := s_asgGW (ws := [i]) (ρ2 := fun x => ρ1.set i (.da (f x))) h (fun x _ => eg_name (List.mem_cons_self ..)) k
theorem s_asgMW {i : Nat} {f : α → List PyData} (h : EwL c ρ te f P ρ1) (k : ∀ x, P x → ∀ p, Sk c T (ρ1.set i (.mu true p (.lst (f x)))) nx) : Ss c T ρ (tAsg te (gName i)) ⟨nx, rt, bk, ct⟩ := fun σ H W =>
  h T σ H W _ fun x p H1 px hB hn mo W1 => k x px p _ _ (W1.setM W.sub i (by rw [if_pos rfl]; exact hB) hn mo)
theorem s_parW {i j : Nat} {ta tb : TE} (h : Ew c ρ ta f P ρ1) (h2 : Ew c ρ1 tb g P2 ρ2) (k : ∀ x y, P x → P2 y → Sk c T ((ρ2.set i (.da (f x))).set j (.da (g y))) nx) : Ss c T ρ (tPar i j (tCons ta (tCons tb tNil))) ⟨nx, rt, bk, ct⟩ := fun σ H W =>
  h T σ H W _ fun x v H1 px W1 => h2 _ σ H1 W1 _ fun y w H2 py W2 => by
    refine ⟨v, w, rfl, ?_⟩
    have W3 : Wd c ((v, f x) :: T) H2 σ ρ2 := W2.pop
    have W4 := W2.setD i W3.dp
    have W5 := W4.setD j W4.dp
    exact k x y px py _ _ W5.pop.pop
theorem s_ifW {A : Bool → Prop} (h : Ewt c ρ t A ρ1) (h1 : A true → Ss c T ρ1 ts D) (h2 : A false → Ss c T ρ1 tu D) : Ss c T ρ (tIfS t ts tu) D := fun σ H W => h T σ H W _ fun b H1 hb W1 => by
  cases b with
  | true => exact h1 hb σ H1 W1
  | false => exact h2 hb σ H1 W1
theorem s_dropW (h : Ew c ρ te f P ρ1) (k : ∀ x, P x → Sk c T ρ1 nx) : Ss c T ρ (tDrop te) ⟨nx, rt, bk, ct⟩ := fun σ H W => h T σ H W _ fun x v H1 px W1 => k x px σ H1 W1.pop
theorem s_open {i : Nat} {l : Bool} {a : Addr} {P : List PyData → Prop} {nx : L2.St → Hp → Prop} (h : ρ[i]? = some (.mu l a (.any P))) (k : ∀ ds, P ds → Sk c T (ρ.set i (.mu l a (.lst ds))) nx) : Sk c T ρ nx := fun σ H W => by
  obtain ⟨_, _, xs, h1, ds, p, h2⟩ := W.ok i _ h
  exact k ds p σ H (W.chg h (fun _ _ _ e => e) ⟨xs, h1, h2⟩)
/-- what a def that draws must return -/
def RtW (c : Cz) (a : Addr) (Φ : PyData → Prop) (rt : VK) : Prop := ∀ d, Φ d → Rt c d [(a, .any StOk)] rt
theorem s_retW {i : Nat} {l : Bool} {a : Addr} {Φ : PyData → Prop} (h : Ew c ρ te f P ρ1) (hi : ρ1[i]? = some (.mu l a (.any StOk))) (hr : RtW c a Φ D.rt) (hp : ∀ x, P x → Φ (f x)) : Ss c T ρ (tRet te) D := fun σ H W => h T σ H W _ fun x v H1 px W1 =>
  hr (f x) (hp x px) v H1 W1.keep (fun p hp => by
    simp only [List.mem_singleton] at hp
    subst hp
    exact (W1.ok i _ hi).2.2.mono hide_S0 rfl) (dpm hide_S0 W1.dp)
/-- a for that draws: its state is any that holds -/
theorem s_forN {β : Type} {wi : TI} {tbd : TS} (xs : List α) (ea : α → Itm) (h : Ei c ρ wi (xs.map ea) ρ1) (P : Nat → β → Prop) (I : Nat → β → List Sl) (b0 : β) (hP : P 0 b0) (h0 : Le ρ1 (I 0 b0))
    (hs : ∀ (T' : Tm), (∀ p ∈ T, p ∈ T') → ∀ (i : Nat) (x : α) (b : β), xs[i]? = some x → P i b → ∃ ρa ws, Eg c gt (ea x) (I i b) ρa ws ∧ Ss c T' ρa tbd ⟨fun σ H => ∃ b', P (i + 1) b' ∧ Wd c T' H σ (I (i + 1) b'), rt, nx, fun σ H => ∃ b', P (i + 1) b' ∧ Wd c T' H σ (I (i + 1) b')⟩)
    (hd : ∀ b, P xs.length b → Sk c T (I xs.length b) nx) : Ss c T ρ (tFor wi gt tbd) ⟨nx, rt, bk, ct⟩ := fun σ H W => h T σ H W _ fun J H1 T1 W1 hw => by
  rw [← List.length_map (f := ea)] at hd
  refine ⟨fun i m σ' H' => i + m = (xs.map ea).length ∧ ∃ b, P i b ∧ Wd c (T1 ++ T) H' σ' (I i b), ⟨(xs.map ea).length, by omega, b0, hP, W1.le h0⟩, fun i m σ' H' ⟨hm, b, pb, W2⟩ => ?_⟩
  have hwk := hw c T σ' H' (I i b) rfl W2
  by_cases hi : i < (xs.map ea).length
  · refine .inr ⟨(hwk.1 i hi).1, fun σ3 H3 => ∃ b', P (i + 1) b' ∧ Wd c (T1 ++ T) H3 σ3 (I (i + 1) b'), fun σ3 H3 h3 => ⟨m - 1, by omega, by omega, h3⟩, fun x H3 hy => ?_⟩
    obtain ⟨d, hd', W3⟩ := (hwk.1 i hi).2 x H3 hy
    rw [List.getElem?_map] at hd'
    cases hx : xs[i]? with
    | none => rw [hx] at hd'; cases hd'
    | some z =>
      rw [hx] at hd'
      have hd' : ea z = d := Option.some.inj hd'
      subst hd'
      obtain ⟨ρa, ws, g1, g2⟩ := hs (T1 ++ T) (fun p hp => List.mem_append_right _ hp) i z b hx pb
      exact g1 _ σ' H3 x W3 _ fun σ4 H4 W4 _ => g2 σ4 H4 W4
  · have ei : i = (xs.map ea).length := by omega
    subst ei
    exact .inl ⟨hwk.2 _ (Nat.le_refl _), hd b pb σ' H' (W2.tmps fun p hp => List.mem_append_right _ hp)⟩
theorem s_endN {β : Type} {P : β → Prop} {I : β → List Sl} (b' : β) (hP : P b') (h : Le ρ (I b')) : Sk c T ρ (fun σ H => ∃ b', P b' ∧ Wd c T H σ (I b')) := fun σ H W => ⟨b', hP, W.le h⟩
end
/-! ### a def that draws -/
theorem startW {K : PySem.W.Frag} {N : List Str} {vs : List V} {ds : List PyData} {S : List Addr} {H : Hp} {a : Addr} (hd : ∀ a ∈ S, ∃ o, H a = some o) (hm : a ∈ S) (mo : MoOk K S H a (.any StOk)) (da : DzAll K (hide S H) vs ds) (hl : ds.length + 1 ≤ N.length) :
    Wd ⟨K, H, [a], S⟩ [] H (L2.start N (.ref a :: vs)) (.mu false a (.any StOk) :: (ds.map .da ++ List.replicate (N.length - (ds.length + 1)) .no)) := by
  have W0 := start_wd (M := []) (N := N.drop 1) hd da (by rw [List.length_drop]; omega)
  have nm : ∀ (i : Nat) (l : Bool) (b : Addr) (o : MO), (ds.map Sl.da ++ List.replicate (N.length - (ds.length + 1)) Sl.no)[i]? ≠ some (.mu l b o) := fun i l b o e => by
    have := List.mem_of_getElem? e
    simp at this
  have hid0 : ∀ b, b ∈ hid ⟨K, H, [a], S⟩ (.mu false a (.any StOk) :: (ds.map Sl.da ++ List.replicate (N.length - (ds.length + 1)) Sl.no)) → b ∈ S := fun b m => by
    rcases List.mem_append.mp m with m | m
    · exact m
    · obtain ⟨i, l, o, e⟩ := mem_muts.mp m
      cases i with
      | zero => cases e; exact hm
      | succ i => exact absurd e (nm i l b o)
  have hid1 : ∀ b, b ∈ S → b ∈ hid ⟨K, H, [a], S⟩ (.mu false a (.any StOk) :: (ds.map Sl.da ++ List.replicate (N.length - (ds.length + 1)) Sl.no)) := fun b m => List.mem_append_left _ m
  have e1 : Ex (hide S H) (hide (hid ⟨K, H, [a], S⟩ (.mu false a (.any StOk) :: (ds.map Sl.da ++ List.replicate (N.length - (ds.length + 1)) Sl.no))) H) := hide_mono fun b o n h => ⟨fun m => n (hid0 b m), h⟩
  have hN : (N.drop 1).length - ds.length = N.length - (ds.length + 1) := by rw [List.length_drop]; omega
  have st : L2.start N (.ref a :: vs) = some (.ref a) :: L2.start (N.drop 1) vs := by
    unfold L2.start
    rw [List.map_cons, List.cons_append, List.length_cons, List.length_drop]
    have : N.length - (vs.length + 1) = N.length - 1 - vs.length := by omega
    rw [this]
  rw [st]
  rw [hN] at W0
  refine ⟨?_, fun b o _ h => h, fun b m => by simp at m; rw [m]; exact hm, hd, fun p hp => (nomatch hp), fun i j l m b o u h1 h2 => ?_, fun i b o h => ?_, fun i s e => ?_⟩
  · have := W0.len
    simp only [List.length_cons]
    rw [this]
  · cases i with
    | zero =>
      cases j with
      | zero => rfl
      | succ j => exact absurd h2 (nm j m b u)
    | succ i => exact absurd h1 (nm i l b o)
  · cases i with
    | zero => cases h
    | succ i => exact absurd h (nm i true b o)
  · cases i with
    | zero => cases e; exact ⟨rfl, by simp, mo.mono e1 rfl⟩
    | succ i =>
      have ok := W0.ok i s e
      have hh : hid ⟨K, H, [], S⟩ (ds.map Sl.da ++ List.replicate (N.length - (ds.length + 1)) Sl.no) = S := by
        have z : muts (ds.map Sl.da ++ List.replicate (N.length - (ds.length + 1)) Sl.no) = [] := by
          apply List.eq_nil_iff_forall_not_mem.mpr
          intro b m
          obtain ⟨i, l, o, e⟩ := mem_muts.mp m
          exact nm i l b o e
        show S ++ muts _ = S
        rw [z, List.append_nil]
      rw [hh] at ok
      have := slOk_mono (H' := H) e1 (fun _ _ => rfl) ok
      cases s with
      | mu l b o => exact absurd e (nm i l b o)
      | _ => exact this
theorem fn_draws {K : PySem.W.Frag} {R : List PyData → (PyData → Prop) → Prop} {N : List Str} {ts : TS} (hN : ∀ ds Φ, R ds Φ → ds.length + 1 ≤ N.length)
    (h : ∀ (B : Hp) (S : List Addr) (a : Addr) (ds : List PyData) (Φ : PyData → Prop), R ds Φ → ∀ D : Ends, RtW ⟨K, B, [a], S⟩ a Φ D.rt → Ss ⟨K, B, [a], S⟩ [] (.mu false a (.any StOk) :: (ds.map .da ++ List.replicate (N.length - (ds.length + 1)) .no)) ts D)
    (vs : List V) (H : Hp) (Q : VK) (E : XK) (hs : SpW K R vs H Q E) : ts { nx := fun _ H' => Q .non H', rt := Q } (L2.start N vs) H := by
  obtain ⟨S, a, vs', ds, Φ, rfl, hm, hd, mo, da, hR, q⟩ := hs
  refine h H S a ds Φ hR { nx := fun _ H' => Q .non H', rt := Q } (fun d hd v H' k ms dp => q d v H' hd (fun b o n e => k b o (by simpa using n) e) (ms (a, .any StOk) (List.mem_cons_self ..)) dp) _ _ (startW hd hm mo da (hN _ _ hR))
theorem spW_len {K : PySem.W.Frag} {Rl : List PyData → (PyData → Prop) → Prop} {ps : List Str} (h : ∀ ds Φ, Rl ds Φ → ds.length + 1 = ps.length) : ∀ vs H Q, SpW K Rl vs H Q E0 → vs.length = ps.length := fun vs H Q ⟨S, a, vs', ds, Φ, e, _, _, _, da, r, _⟩ => by
  rw [e, List.length_cons, dpa_length da]; exact h ds Φ r
/-! ### a def that returns a new list -/
def SpL (K : PySem.W.Frag) (R : List PyData → List PyData → Prop) : Sp := fun vs H Q _ => ∃ (S : List Addr) (ds es : List PyData), (∀ a ∈ S, ∃ o, H a = some o) ∧ DzAll K (hide S H) vs ds ∧ R ds es ∧
  ∀ p H', Ex H H' → H p = none → MoOk K (p :: S) H' p (.lst es) → Q (.ref p) H'
theorem spL_len {K : PySem.W.Frag} {Rl : List PyData → List PyData → Prop} {ps : List Str} (h : ∀ ds d, Rl ds d → ds.length = ps.length) : ∀ vs H Q, SpL K Rl vs H Q E0 → vs.length = ps.length := fun vs H Q ⟨S, ds, d, _, a, r, _⟩ => (dpa_length a).trans (h ds d r)
def RtL (c : Cz) (es : List PyData) (rt : VK) : Prop := ∀ p H', (∀ a o, a ∉ c.M → c.B a = some o → H' a = some o) → c.B p = none → MoOk c.K (p :: c.S0) H' p (.lst es) → rt (.ref p) H'
theorem s_retL {c : Cz} {T : Tm} {ρ ρ1 : List Sl} {te : TE} {es : List PyData} {D : Ends} (h : EdL c ρ te es ρ1) (hr : RtL c es D.rt) : Ss c T ρ (tRet te) D := fun σ H W => h T σ H W _ fun p H1 hB hn mo W1 => hr p H1 W1.keep hB (by
  obtain ⟨xs, h1, h2⟩ := mo
  exact ⟨xs, h1, dpam (hide_mono fun a o n h => ⟨fun m => n (by
    rcases List.mem_cons.mp m with e | m
    · rw [e]; exact List.mem_cons_self ..
    · exact List.mem_cons_of_mem _ (List.mem_append_left _ m)), h⟩) h2⟩)
theorem fn_new {K : PySem.W.Frag} {R : List PyData → List PyData → Prop} {N : List Str} {ts : TS} (hN : ∀ ds d, R ds d → ds.length ≤ N.length)
    (h : ∀ (B : Hp) (S : List Addr) (ds es : List PyData), R ds es → ∀ D : Ends, RtL ⟨K, B, [], S⟩ es D.rt → Ss ⟨K, B, [], S⟩ [] (ds.map .da ++ List.replicate (N.length - ds.length) .no) ts D)
    (vs : List V) (H : Hp) (Q : VK) (E : XK) (hs : SpL K R vs H Q E) : ts { nx := fun _ H' => Q .non H', rt := Q } (L2.start N vs) H := by
  obtain ⟨S, ds, es, hd, a, hR, q⟩ := hs
  exact h H S ds es hR { nx := fun _ H' => Q .non H', rt := Q } (fun p H' k hB mo => q p H' (fun a o e => k a o (fun m => nomatch m) e) hB mo) _ _ (start_wd (M := []) hd a (hN _ _ hR))
theorem Wd.hideNew' {c : Cz} {T : Tm} {H H' : Hp} {σ : L2.St} {ρ : List Sl} {p : Addr} {o : HO} (W : Wd c T H σ ρ) (e : Ex H H') (h : H p = none) (h' : H' p = some o) : Wd (c.hidden p) T H' σ ρ := by
  have W2 := W.grow e
  have n := W.fresh h
  have e2 : Ex (hide (hid c ρ) H) (hide (hid (c.hidden p) ρ) H') := hide_mono fun a u m q => ⟨fun z => by
    rcases List.mem_cons.mp z with z | z
    · rw [z, h] at q; cases q
    · exact m z, e a u q⟩
  refine ⟨W.len, W2.keep, fun a m => List.mem_cons_of_mem _ (W.sub a m), fun a m => ?_, fun q hq => dpm e2 (W.tmp q hq), W.inj, fun i a u q m => ?_, fun i s m => ?_⟩
  · rcases List.mem_cons.mp m with m | m
    · rw [m]; exact ⟨o, h'⟩
    · exact W2.dom a m
  · rcases List.mem_cons.mp m with m | m
    · obtain ⟨z, hz⟩ := (W.ok i _ q).2.2.there
      rw [m, h] at hz; cases hz
    · exact W.ap i a u q m
  · have := slOk_mono (c := c) (H' := H') e2 (fun a q => by
      cases s with
      | mu l b o' =>
        cases q
        obtain ⟨u, hu⟩ := (W.ok i _ m).2.2.there
        rw [hu, e _ _ hu]
      | _ => cases q) (W.ok i s m)
    cases s <;> exact this
theorem el_callL {c : Cz} {ρ ρ1 : List Sl} {R : List PyData → List PyData → Prop} {ts : TA} {ds es : List PyData} {E : XK} (h : Ea c ρ ts (ds.map .dat) ρ1) (hR : R ds es) : EdL c ρ (tCall (SpL c.K R) [] E ts) es ρ1 := fun T σ H W Q q => h T σ H W _ fun vs H1 a W1 => by
  rw [List.append_nil]
  refine ⟨hid c ρ1, ds, es, fun a h => W1.there h, aa_dats a, hR, fun p H' e hp mo => ?_⟩
  obtain ⟨xs, h1, h2⟩ := mo
  exact q p H' (W1.freshB hp) (W1.fresh hp) ⟨xs, h1, h2⟩ (W1.hideNew' e hp h1)
/-! #### a[i] op= b -/
section
variable {X : Cx}
theorem get_listG : PGet X (rGetG X.K) := by
  intro pins s σ H x y v u Q I rx ry h
  obtain ⟨p, xs, i, z, rfl, rfl, hq, he, q⟩ := h
  cases rx
  obtain ⟨t, rfl⟩ := ry
  obtain ⟨its, r, pl, hz⟩ := I.list hq
  obtain ⟨j, h1, h2, h3, h4, h5⟩ := atI_get he
  obtain ⟨w, ew, rw'⟩ := r.get h2
  have hl := r.length
  have hn := line63
  have fin : EP X pins σ Q w s := ⟨z, H, I, rw', q⟩
  by_cases h0 : 0 ≤ i
  · have hj : i.toNat = j := by
      rw [seqIndex_of h0 h5] at h1
      exact Option.some.inj h1
    exact PySem.wpAny_getItem_list pl.isList h0 (by omega) (by rw [hj]; simpa using ew) fin
  · have hj : (i + (its.toArray.size : Int)).toNat = j := by
      rw [seqIndex_neg (by omega) h4] at h1
      rw [List.size_toArray, ← hl]
      exact Option.some.inj h1
    exact PySem.wpAny_getItem_list_neg pl.isList (by omega) (by rw [List.size_toArray] <;> omega) (by omega) (by rw [hj]; simpa using ew) fin
theorem ix_any : IxR X (fun x y H Q => rIxL X.K x y H Q ∨ rIxT X.K x y H Q) := ix_list.or ix_tup
end
section
variable {c : Cz} {ρ ρ1 ρ2 : List Sl} {ta tb te : TE} {d : PyData} {T : Tm} {D : Ends} {nx bk ct : L2.St → Hp → Prop} {rt : VK}
theorem s_augSX {i : Nat} {l : Bool} {a : Addr} {f : Int → Int → Int} {xs : List Int} {j y : Int} (hj : Ed c ρ tb (.int j) ρ1) (h : Ed c ρ1 te (.int y) ρ2) (h0 : ∃ l o, ρ[i]? = some (.mu l a o)) (ha : ρ1[i]? = some (.mu l a (.lst (xs.map .int))))
    (ha2 : ρ2[i]? = some (.mu l a (.lst (xs.map .int)))) (hn : 0 ≤ j ∧ j < xs.length) (k : Sk c T (ρ2.set i (.mu l a (.lst ((xs.set j.toNat (f (ixG xs j) y)).map .int)))) nx) : Ss c T ρ (tAugS (tVar i) tb te (rGetG c.K) (ipI f) rSetL) ⟨nx, rt, bk, ct⟩ := fun σ H W => by
  obtain ⟨l0, o0, h0⟩ := h0
  refine ⟨.ref a, (W.ok i _ h0).1, hj T σ H W _ fun w H1 W1 => ?_⟩
  obtain ⟨_, _, ys, h1, h2⟩ := W1.ok i _ ha
  have hix : atI (xs.map PyData.int) j = some (PyData.int (ixG xs j)) := ix_some (f := PyData.int) ⟨by omega, hn.2⟩
  obtain ⟨v, h3, h4⟩ := atI_dp h2 hix
  refine ⟨a, ys, j, v, rfl, dp_int W1.dp, sq_of h1, h3, h _ σ H1 W1 _ fun w2 H2 W2 => ⟨ixG xs j, y, dp_int h4, dp_int W2.dp, ?_⟩⟩
  obtain ⟨_, _, zs, h5, h6⟩ := W2.ok i _ ha2
  refine ⟨a, zs, j, j.toNat, rfl, dp_int W2.pop.dp, h5, by rw [dpa_length h6]; exact ixN_nn (by rw [List.length_map]; exact hn), ?_⟩
  refine k _ _ (W2.pop.pop.updM ha2 ⟨zs.set j.toNat (.int (f (ixG xs j) y)), upd_same, ?_⟩)
  have hm : a ∈ hid c ρ2 := List.mem_append_right _ (mem_muts.mpr ⟨i, l, _, ha2⟩)
  have e5 : Ex (hide (hid c ρ2) H2) (hide (hid c ρ2) (upd H2 a (.lst (zs.set j.toNat (.int (f (ixG xs j) y)))))) := hide_mono fun b o nb e => ⟨nb, by rw [upd_ne (fun q => nb (by rw [q]; exact hm))]; exact e⟩
  rw [List.map_set]
  exact dpam e5 (dpa_set _ h6 (.int _))
end
/-! #### drawing, picking -/
def R_draw : List PyData → (PyData → Prop) → Prop := fun ds Φ => ∃ many : Int, ds = [.int many] ∧ 0 < many ∧ many < 2 ^ 30 ∧ ∀ x : Int, (0 ≤ x ∧ x < many) → Φ (.int x)
def R_pick : List PyData → (PyData → Prop) → Prop := fun ds Φ => ∃ l : List PyData, (ds = [.list l] ∨ ds = [.tuple l]) ∧ 0 < l.length ∧ l.length < 2 ^ 30 ∧ ∀ d ∈ l, Φ d
def seedOf (script : List Int) : Nat := script.foldl (fun seed cell => (((seed : Int) * 48271 + cell) % 2147483629).toNat + 1) 7
theorem seedOf_step {script : List Int} {i : Nat} {x : Int} (h : script[i]? = some x) : ((seedOf (script.take i) : Nat) : Int) * 48271 + x = ((seedOf (script.take i) : Nat) : Int) * 48271 + x ∧ ((((seedOf (script.take i) : Nat) : Int) * 48271 + x) % 2147483629 + 1 = ((seedOf (script.take (i + 1)) : Nat) : Int)) := by
  refine ⟨rfl, ?_⟩
  unfold seedOf
  rw [List.take_add_one, h, List.foldl_append]
  simp only [Option.toList, List.foldl_cons, List.foldl_nil]
  have := Int.emod_nonneg ((List.foldl (fun seed cell => (((seed : Int) * 48271 + cell) % 2147483629).toNat + 1) 7 (script.take i) : Nat) * 48271 + x) (show (2147483629 : Int) ≠ 0 by decide)
  omega
section
variable {c : Cz} {ρ ρ1 ρ2 : List Sl} {ta tb te : TE} {α β γ : Type} {P : α → Prop}
theorem ew_draw {i : Nat} {l : Bool} {a : Addr} {P : Int → Prop} {E : XK} (h : Ew c ρ te PyData.int P ρ1) (hi0 : ρ[i]? = some (.mu l a (.any StOk))) (hi : ρ1[i]? = some (.mu l a (.any StOk))) (hp : ∀ m, P m → 0 < m ∧ m < 2 ^ 30) :
    Ew c ρ (tCall (SpW c.K R_draw) [] E (tCons (tVar i) (tCons te tNil))) PyData.int (fun x => ∃ m, P m ∧ 0 ≤ x ∧ x < m) ρ1 :=
  ew_imp (ew_callW (e := PyData.int) (P3 := fun (p : Int × Unit) x => 0 ≤ x ∧ x < p.1) (ds := fun p : Int × Unit => [.int p.1]) (ewa_raw hi0 (ewa_cons h ewa_nil)) hi (fun x px => ⟨x.1, rfl, (hp _ px.1).1, (hp _ px.1).2, fun y hy => ⟨y, hy, rfl⟩⟩)) fun y ⟨p, hp, hy⟩ => ⟨p.1, hp.1, hy⟩
theorem mem_ix {l : List PyData} {x : Int} {d : PyData} (h : atI l x = some d) : d ∈ l := by
  unfold atI at h
  cases q : ixN l.length x with
  | none => rw [q] at h; cases h
  | some j => rw [q] at h; exact List.mem_of_getElem? h
theorem ew_ixAny {ds : List PyData} {s : PyData} {P : Int → Prop} (hs : s = .list ds ∨ s = .tuple ds) (ha : Ed c ρ ta s ρ1) (hb : Ew c ρ1 tb PyData.int P ρ2) (hp : ∀ x, P x → 0 ≤ x ∧ x < ds.length) :
    Ew c ρ (tOp (fun x y H Q => rIxL c.K x y H Q ∨ rIxT c.K x y H Q) ta tb) (fun d => d) (fun d => d ∈ ds) ρ2 := fun T σ H W Q q => ha T σ H W _ fun v H1 W1 => hb _ σ H1 W1 _ fun x w H2 px W2 => by
  have hx := hp x px
  obtain ⟨d0, e⟩ : ∃ d0, atI ds x = some d0 := ⟨ds[x.toNat]'(by omega), by
    unfold atI; rw [ixN_nn hx]
    show ds[x.toNat]? = _
    exact List.getElem?_eq_getElem (by omega)⟩
  rcases hs with rfl | rfl
  · obtain ⟨a, xs, rfl, hs, h2⟩ := dp_lst W2.pop.dp
    obtain ⟨z, h3, h4⟩ := atI_dp h2 e
    exact .inl ⟨a, xs, x, z, rfl, dp_int W2.dp, ex_l (hide_ex _ _) hs, h3, q _ z H2 (mem_ix e) (W2.pop.pop.push h4)⟩
  · obtain ⟨a, xs, rfl, hs, h2⟩ := dp_tup W2.pop.dp
    obtain ⟨z, h3, h4⟩ := atI_dp h2 e
    exact .inr ⟨a, xs, x, z, rfl, dp_int W2.dp, (ex_p (hide_ex _ _) hs).sq, h3, q _ z H2 (mem_ix e) (W2.pop.pop.push h4)⟩
/-- _law_pick(state, list) -/
theorem ew_pickL {i : Nat} {l : Bool} {a : Addr} {f : α → PyData} {P : List α → Prop} {E : XK} (h : Ew c ρ te (fun l : List α => .list (l.map f)) P ρ1) (hi0 : ρ[i]? = some (.mu l a (.any StOk))) (hi : ρ1[i]? = some (.mu l a (.any StOk))) (hp : ∀ m, P m → 0 < m.length ∧ m.length < 2 ^ 30) :
    Ew c ρ (tCall (SpW c.K R_pick) [] E (tCons (tVar i) (tCons te tNil))) f (fun x => ∃ m, P m ∧ x ∈ m) ρ1 :=
  ew_imp (ew_callW (e := f) (P3 := fun (p : List α × Unit) x => x ∈ p.1) (ds := fun p : List α × Unit => [.list (p.1.map f)]) (ewa_raw hi0 (ewa_cons h ewa_nil)) hi (fun x px => ⟨x.1.map f, .inl rfl, by rw [List.length_map]; exact (hp _ px.1).1, by rw [List.length_map]; exact (hp _ px.1).2, fun d hd => by
    obtain ⟨z, hz, e⟩ := List.mem_map.mp hd
    exact ⟨z, hz, e.symm⟩⟩)) fun y ⟨p, hp, hy⟩ => ⟨p.1, hp.1, hy⟩
theorem ew_pickT {i : Nat} {l : Bool} {a : Addr} {f : α → PyData} {P : List α → Prop} {E : XK} (h : Ew c ρ te (fun l : List α => .tuple (l.map f)) P ρ1) (hi0 : ρ[i]? = some (.mu l a (.any StOk))) (hi : ρ1[i]? = some (.mu l a (.any StOk))) (hp : ∀ m, P m → 0 < m.length ∧ m.length < 2 ^ 30) :
    Ew c ρ (tCall (SpW c.K R_pick) [] E (tCons (tVar i) (tCons te tNil))) f (fun x => ∃ m, P m ∧ x ∈ m) ρ1 :=
  ew_imp (ew_callW (e := f) (P3 := fun (p : List α × Unit) x => x ∈ p.1) (ds := fun p : List α × Unit => [.tuple (p.1.map f)]) (ewa_raw hi0 (ewa_cons h ewa_nil)) hi (fun x px => ⟨x.1.map f, .inr rfl, by rw [List.length_map]; exact (hp _ px.1).1, by rw [List.length_map]; exact (hp _ px.1).2, fun d hd => by
    obtain ⟨z, hz, e⟩ := List.mem_map.mp hd
    exact ⟨z, hz, e.symm⟩⟩)) fun y ⟨p, hp, hy⟩ => ⟨p.1, hp.1, hy⟩
end
end Nz

/-! what gen.py names for defs that draw -/
namespace Nz
open PySem PySem.Spec PyProof.Rows L2 RZ
section
variable {c : Cz} {ρ ρ1 ρ2 ρ3 : List Sl} {ta tb te tx : TE} {t u : TT} {d d1 d2 d3 : PyData} {T : Tm} {H H' : Hp} {σ : L2.St}
variable {α β γ : Type} {f : α → PyData} {g : β → PyData} {e : γ → PyData} {P : α → Prop} {P2 : β → Prop} {P3 : γ → Prop}
theorem ew_drawD {i : Nat} {l : Bool} {a : Addr} {m : Int} {E : XK} (h : Ed c ρ te (.int m) ρ1) (hi0 : ρ[i]? = some (.mu l a (.any StOk))) (hi : ρ1[i]? = some (.mu l a (.any StOk))) (hp : 0 < m ∧ m < 2 ^ 30) :
    Ew c ρ (tCall (SpW c.K R_draw) [] E (tCons (tVar i) (tCons te tNil))) PyData.int (fun x => 0 ≤ x ∧ x < m) ρ1 :=
  ew_imp (ew_draw (ew_det (f := PyData.int) h) hi0 hi (fun n e => by subst e; exact hp)) fun x ⟨n, e, hx⟩ => by subst e; exact hx
theorem ew_pickLD {i : Nat} {l : Bool} {a : Addr} {f : α → PyData} {m : List α} {E : XK} (h : Ed c ρ te (.list (m.map f)) ρ1) (hi0 : ρ[i]? = some (.mu l a (.any StOk))) (hi : ρ1[i]? = some (.mu l a (.any StOk))) (hp : 0 < m.length ∧ m.length < 2 ^ 30) :
    Ew c ρ (tCall (SpW c.K R_pick) [] E (tCons (tVar i) (tCons te tNil))) f (fun x => x ∈ m) ρ1 :=
  ew_imp (ew_pickL (f := f) (ew_det (f := fun l : List α => .list (l.map f)) h) hi0 hi (fun n e => by subst e; exact hp)) fun x ⟨n, e, hx⟩ => by subst e; exact hx
theorem ew_pickTD {i : Nat} {l : Bool} {a : Addr} {f : α → PyData} {m : List α} {E : XK} (h : Ed c ρ te (.tuple (m.map f)) ρ1) (hi0 : ρ[i]? = some (.mu l a (.any StOk))) (hi : ρ1[i]? = some (.mu l a (.any StOk))) (hp : 0 < m.length ∧ m.length < 2 ^ 30) :
    Ew c ρ (tCall (SpW c.K R_pick) [] E (tCons (tVar i) (tCons te tNil))) f (fun x => x ∈ m) ρ1 :=
  ew_imp (ew_pickT (f := f) (ew_det (f := fun l : List α => .tuple (l.map f)) h) hi0 hi (fun n e => by subst e; exact hp)) fun x ⟨n, e, hx⟩ => by subst e; exact hx
theorem ew_callWD {R : List PyData → (PyData → Prop) → Prop} {ts : TA} {ds : List PyData} {E : XK} {i : Nat} {l : Bool} {a : Addr} (h : Ea c ρ ts (.raw (.ref a) :: ds.map .dat) ρ1) (hi : ρ1[i]? = some (.mu l a (.any StOk)))
    (hR : R ds (fun d => ∃ z, P3 z ∧ d = e z)) : Ew c ρ (tCall (SpW c.K R) [] E ts) e P3 ρ1 :=
  ew_imp (ew_callW (e := e) (P3 := fun (_ : Unit) z => P3 z) (ds := fun _ => ds) (ewa_det (x := ()) (as := fun _ => .raw (.ref a) :: ds.map .dat) h) hi (fun _ _ => hR)) fun z ⟨_, _, hz⟩ => hz
theorem ed_sumM {xs : List Int} {j : Nat} {l : Bool} {a : Addr} (ha : ρ[j]? = some (.mu l a (.lst (xs.map .int)))) : Ed c ρ (tCB (rSumT c.K) (tCons (tVar j) tNil)) (.int xs.sum) ρ := fun T σ H W Q q => by
  obtain ⟨h0, _, ys, h1, h2⟩ := W.ok j _ ha
  have := dpaInts h2
  subst this
  exact ⟨.ref a, h0, a, xs, rfl, .inr (sq_of h1), q _ H (W.push (.int _))⟩
theorem el_lcW1 {δ : Type} {wi : TI} {g : TG} {vs : List Nat} {xs : List δ} {ea : δ → Itm} {eb : γ → PyData} {R : δ → γ → Prop} (h : Ei c ρ wi (xs.map ea) ρ1) (hsz : xs.length ≤ 100000) (hvs : ∀ j ∈ vs, ρ1[j]? = some .no)
    (turn : ∀ (S : List Addr) (B : Hp) (x : δ), x ∈ xs → ∃ ρa, Nz.wipeS ρa vs = ρ1 ∧ Eg (c.at S B) g (ea x) ρ1 ρa vs ∧ Ew (c.at S B) ρa te eb (R x) ρa) :
    EwL c ρ (tLc wi g tYes te vs) (fun l : List γ => l.map eb) (fun l => Fa R xs l) ρ1 := fun T σ H W Q q =>
  el_lcW (xs := fun _ : Unit => xs) (R := fun _ => R) (eiw_det (x := ()) (its := fun _ => xs.map ea) h) (fun _ _ => hsz) hvs (fun S B _ x _ hx => turn S B x hx) T σ H W Q fun l p H' ⟨_, _, hf⟩ => q l p H' hf
variable {D : Ends} {nx bk ct : L2.St → Hp → Prop} {rt : VK}
theorem s_retP (h : Ew c ρ te f P ρ1) (hr : ∀ x, P x → Rt c (f x) [] D.rt) : Ss c T ρ (tRet te) D := fun σ H W => h T σ H W _ fun x v H1 px W1 => hr x px v H1 W1.keep (fun _ hp => by cases hp) (dpm hide_S0 W1.dp)
/-- the first state of a law -/
theorem s_state {i : Nat} {l : List Int} {s : Nat} (h : EdL c ρ te [.list (l.map .int), .int 0, .int 0, .int (s : Int)] ρ1) (k : ∀ p, Sk c T (ρ1.set i (.mu true p (.any StOk))) nx) : Ss c T ρ (tAsg te (gName i)) ⟨nx, rt, bk, ct⟩ :=
  s_asgM (i := i) h fun p σ H W => k p σ H (W.le ⟨by simp, fun j s s' h1 h2 => by
    rcases get_set h2 with ⟨rfl, hi, e⟩ | ⟨q, e⟩
    · rw [List.getElem?_set_self hi] at h1
      cases h1; subst e
      exact ⟨rfl, rfl, .inr ⟨_, _, rfl, rfl, ⟨l, 0, 0, _, rfl⟩⟩⟩
    · rw [List.getElem?_set_ne q] at h1
      rw [h1] at e; cases e
      exact slLe_refl _⟩)
end
end Nz

/-! lists or tuples; pairs that are quotients -/
namespace Nz
open PySem PySem.Spec PyProof.Rows L2 RZ
def eS {α : Type} (f : α → PyData) : Bool × List α → PyData
  | (true, l) => eL f l
  | (false, l) => eT f l
abbrev qp (r : Rat) : Int × Int := (r.num, (r.den : Int))
def qv (p : Int × Int) : Rat := Rat.divInt p.1 p.2
theorem qv_qp (r : Rat) : qv (qp r) = r := Rat.num_divInt_den r
section
variable {X : Cx} {e : Expr} {te : TE}
def iSeq (K : PySem.W.Frag) (te : TE) : TI := fun σ H R => iList K te σ H R ∨ iTup K te σ H R
theorem pi_seq {tg : Expr} (h : PE X e te) : PI X tg e (iSeq X.K te) := ⟨fun pins s σ H R I q => by
  rcases q with q | q
  · exact (pi_list h).run pins s σ H R I q
  · exact (pi_tup h).run pins s σ H R I q⟩
end
section
variable {c : Cz} {ρ ρ1 ρ2 : List Sl} {ta tb te : TE} {d : PyData} {T : Tm} {D : Ends} {nx bk ct : L2.St → Hp → Prop} {rt : VK}
theorem ei_seqX {α : Type} {f : α → PyData} {p : Bool × List α} (h : Ed c ρ te (eS f p) ρ1) : Ei c ρ (iSeq c.K te) (p.2.map fun x => Itm.hard (f x)) ρ1 := by
  obtain ⟨b, l⟩ := p
  cases b with
  | true => exact fun T σ H W R q => .inl (ei_listX (l := l) (f := f) h T σ H W R q)
  | false => exact fun T σ H W R q => .inr (ei_tupX (l := l) (f := f) h T σ H W R q)
/-- a, b = new list that will change, data -/
theorem s_parM1 {i j : Nat} {ds : List PyData} {y : PyData} (h : EdL c ρ ta ds ρ1) (h2 : ∀ S B, Ed (c.at S B) ρ1 tb y ρ1) (hij : i ≠ j) (k : ∀ p, Sk c T ((ρ1.set i (.mu true p (.lst ds))).set j (.da y)) nx) : Ss c T ρ (tPar i j (tCons ta (tCons tb tNil))) ⟨nx, rt, bk, ct⟩ := fun σ H W =>
  h T σ H W _ fun p H1 hB hn mo W1 => by
    obtain ⟨xs, hx, dx⟩ := mo
    have hs := W.sub
    have nS : p ∉ c.S0 := fun m => hn (List.mem_append_left _ m)
    have W2 : Wd (c.at (p :: c.S0) (upd c.B p (.lst xs))) (xs.zip ds ++ T) H1 σ ρ1 := (W1.pin hx hB hs nS).pushAll dx
    refine h2 _ _ _ σ H1 W2 _ fun v H2 W3 => ?_
    have lx := dpa_length dx
    obtain ⟨hp2, W4⟩ := W3.unpin hB (fun m => nS (hs p m))
    have hn4 := W4.notin nS hs
    have dx2 := Wd.allOf (T := T) lx W4.pop
    have W5 := W4.setM hs i (l := true) (o := .lst ds) (by rw [if_pos rfl]; exact hB) hn4 ⟨xs, hp2, dx2⟩
    have dy : Dz c.K (hide (hid c (ρ1.set i (.mu true p (.lst ds)))) H2) v y := W5.tmp (v, y) (List.mem_cons_self ..)
    have W6 := W5.setD j dy
    refine ⟨.ref p, v, rfl, ?_⟩
    exact k p _ _ (W6.tmps fun q hq => List.mem_cons_of_mem _ (List.mem_append_right _ hq))
end
end Nz

/-! the mathematics of quotients, for the defs that all laws share -/
namespace Nz
open PySem PySem.Spec PyProof.Rows L2 RZ

abbrev eN (n : Nat) : PyData := .int (n : Int)
def isIntD (d : PyData) : Bool := isi_int d && !isi_bool d
theorem gcd_turn (a b : Nat) : Nat.gcd b (a % b) = Nat.gcd a b := by rw [Nat.gcd_comm b, ← Nat.gcd_rec, Nat.gcd_comm]
theorem gcd_end {a b : Nat} {n : Nat} (h : Nat.gcd a b = n) (hb : decide ((0 : Int) < (b : Int)) = false) : PyData.int (a : Int) = eN n := by
  have : b = 0 := by have := of_decide_eq_false hb; omega
  subst this
  rw [Nat.gcd_zero_right] at h
  rw [h]
/-- both parts below 2 ^ 4400 -/
def Qb (r : Rat) : Prop := r.num.natAbs < 2 ^ 4400 ∧ r.den < 2 ^ 4400
theorem quo_gcd {a b : Int} (h : b ≠ 0) : 0 < (Nat.gcd a.natAbs b.natAbs : Int) := by
  have := Nat.gcd_pos_of_pos_right a.natAbs (show 0 < b.natAbs by omega)
  omega
theorem quo_le {a b : Int} (h : b ≠ 0) : Nat.gcd a.natAbs b.natAbs ≤ b.natAbs := Nat.le_of_dvd (by omega) (Nat.gcd_dvd_right _ _)
theorem eN_abs {i : Int} (h : 0 ≤ i) : PyData.int i = eN i.natAbs := by
  show PyData.int i = PyData.int (i.natAbs : Int)
  rw [show (i.natAbs : Int) = i by omega]
theorem quo_div {a b : Int} (h : b ≠ 0) (h2 : b.natAbs < 2 ^ 8999) {i : Int} : CDivG i (Nat.gcd a.natAbs b.natAbs : Int) := by
  have h3 := quo_le (a := a) h
  exact div_b (quo_gcd h) (Nat.lt_of_le_of_lt (by omega) h2)
theorem quo_num (a b : Int) (h : 0 < b) : (Rat.divInt a b).num = a / (Nat.gcd a.natAbs b.natAbs : Int) := by
  rw [Rat.num_divInt, Int.sign_eq_one_of_pos h, Int.one_mul, Int.gcd_comm]; rfl
theorem quo_den (a b : Int) (h : 0 < b) : ((Rat.divInt a b).den : Int) = b / (Nat.gcd a.natAbs b.natAbs : Int) := by
  rw [Rat.den_divInt, if_neg (by omega), Int.gcd_comm]
  show ((b.natAbs / Nat.gcd a.natAbs b.natAbs : Nat) : Int) = _
  rw [Int.natCast_ediv, show (b.natAbs : Int) = b by omega]
theorem quo_pos {a b : Int} (h0 : b ≠ 0) (h : decide (b < 0) = false) : PyData.tuple [.int (a / (Nat.gcd a.natAbs b.natAbs : Int)), .int (b / (Nat.gcd a.natAbs b.natAbs : Int))] = eQ (Rat.divInt a b) := by
  have hb : 0 < b := by have := of_decide_eq_false h; omega
  show _ = PyData.tuple [.int _, .int _]
  rw [quo_num a b hb, quo_den a b hb]
theorem quo_neg {a b : Int} (h : decide (b < 0) = true) : PyData.tuple [.int ((-a) / (Nat.gcd (-a).natAbs (-b).natAbs : Int)), .int ((-b) / (Nat.gcd (-a).natAbs (-b).natAbs : Int))] = eQ (Rat.divInt a b) := by
  have hb : 0 < -b := by have := of_decide_eq_true h; omega
  rw [← Rat.neg_divInt_neg]
  show _ = PyData.tuple [.int _, .int _]
  rw [quo_num (-a) (-b) hb, quo_den (-a) (-b) hb]
theorem den_ne (a : Rat) : (a.den : Int) ≠ 0 := by have := a.den_nz; omega
theorem q_add (a b : Rat) : Rat.divInt (a.num * b.den + b.num * a.den) (a.den * b.den) = a + b := by
  rw [Rat.add_def', ← Rat.divInt_ofNat]; push_cast; rfl
theorem q_sub (a b : Rat) : Rat.divInt (a.num * b.den - b.num * a.den) (a.den * b.den) = a - b := by
  rw [Rat.sub_def', ← Rat.divInt_ofNat]; push_cast; rfl
theorem q_mul (a b : Rat) : Rat.divInt (a.num * b.num) (a.den * b.den) = a * b := by
  rw [Rat.mul_def', ← Rat.divInt_ofNat]; push_cast; rfl
theorem q_div (a b : Rat) : Rat.divInt (a.num * b.den) (a.den * b.num) = a / b := by
  rw [Rat.div_def, Rat.inv_def]
  conv => rhs; rw [← Rat.num_divInt_den a, Rat.divInt_mul_divInt]
theorem den_nz2 (a b : Rat) : (a.den : Int) * (b.den : Int) ≠ 0 := Int.mul_ne_zero (den_ne a) (den_ne b)
theorem num_ne {b : Rat} (h : b ≠ 0) : b.num ≠ 0 := fun e => h (Rat.num_eq_zero.mp e)
theorem den_nz3 (a : Rat) {b : Rat} (h : b ≠ 0) : (a.den : Int) * b.num ≠ 0 := Int.mul_ne_zero (den_ne a) (num_ne h)
theorem lt_pow {a b : Nat} (ha : a < 2 ^ 4400) (hb : b < 2 ^ 4400) : a * b < 2 ^ 8999 :=
  Nat.lt_of_lt_of_le (Nat.mul_lt_mul'' ha hb) (by rw [← Nat.pow_add]; exact Nat.pow_le_pow_right (by decide) (by decide))
theorem den_lt2 {a b : Rat} (ha : Qb a) (hb : Qb b) : ((a.den : Int) * (b.den : Int)).natAbs < 2 ^ 8999 := by
  rw [Int.natAbs_mul]; exact lt_pow ha.2 hb.2
theorem den_lt3 {a b : Rat} (ha : Qb a) (hb : Qb b) : ((a.den : Int) * b.num).natAbs < 2 ^ 8999 := by
  rw [Int.natAbs_mul]; exact lt_pow ha.2 hb.1
theorem mul_nd {a b : Rat} (ha : Qb a) (hb : Qb b) : IntMulOk a.num (b.den : Int) := mul_b ha.1 (show ((b.den : Int)).natAbs < 2 ^ 4400 from hb.2)
theorem mul_dn {a b : Rat} (ha : Qb a) (hb : Qb b) : IntMulOk (a.den : Int) b.num := mul_b (show ((a.den : Int)).natAbs < 2 ^ 4400 from ha.2) hb.1
theorem mul_dd {a b : Rat} (ha : Qb a) (hb : Qb b) : IntMulOk (a.den : Int) (b.den : Int) := mul_b (show ((a.den : Int)).natAbs < 2 ^ 4400 from ha.2) (show ((b.den : Int)).natAbs < 2 ^ 4400 from hb.2)
theorem mul_nn {a b : Rat} (ha : Qb a) (hb : Qb b) : IntMulOk a.num b.num := mul_b ha.1 hb.1
end Nz

set_option exponentiation.threshold 10000
/-! quotients: sizes -/
namespace Nz
open PySem PySem.Spec PyProof.Rows L2 RZ
/-- both parts at most 2 ^ k -/
def Qk (k : Nat) (r : Rat) : Prop := r.num.natAbs ≤ 2 ^ k ∧ r.den ≤ 2 ^ k
theorem Qk.mono {j k : Nat} {r : Rat} (h : Qk j r) (hk : j ≤ k) : Qk k r := ⟨Nat.le_trans h.1 (Nat.pow_le_pow_right (by decide) hk), Nat.le_trans h.2 (Nat.pow_le_pow_right (by decide) hk)⟩
theorem Qk.qb {k : Nat} {r : Rat} (h : Qk k r) (hk : k < 4400) : Qb r := ⟨Nat.lt_of_le_of_lt h.1 (Nat.pow_lt_pow_right (by decide) hk), Nat.lt_of_le_of_lt h.2 (Nat.pow_lt_pow_right (by decide) hk)⟩
theorem Qk.gd {k : Nat} {r : Rat} (h : Qk k r) (hk : k < 1900) : Gd 1 1209 (eQ r) := gd_Q (Nat.lt_of_le_of_lt h.1 (Nat.pow_lt_pow_right (by decide) hk)) (Nat.lt_of_le_of_lt h.2 (Nat.pow_lt_pow_right (by decide) hk))
theorem div_natAbs_le {a : Int} {g : Nat} : (a / (g : Int)).natAbs ≤ a.natAbs := Int.natAbs_ediv_le_natAbs _ _
theorem divInt_le (a b : Int) (h : 0 < b) : (Rat.divInt a b).num.natAbs ≤ a.natAbs ∧ (Rat.divInt a b).den ≤ b.natAbs := by
  rw [quo_num a b h]
  refine ⟨div_natAbs_le, ?_⟩
  have := quo_den a b h
  have h2 := div_natAbs_le (a := b) (g := Nat.gcd a.natAbs b.natAbs)
  rw [← this] at h2
  exact h2
theorem Qk_divInt {k : Nat} {a b : Int} (h : 0 < b) (ha : a.natAbs ≤ 2 ^ k) (hb : b.natAbs ≤ 2 ^ k) : Qk k (Rat.divInt a b) := by
  obtain ⟨h1, h2⟩ := divInt_le a b h
  exact ⟨Nat.le_trans h1 ha, Nat.le_trans h2 hb⟩
theorem Qk_mul {j k : Nat} {r q : Rat} (h1 : Qk j r) (h2 : Qk k q) : Qk (j + k) (r * q) := by
  rw [← q_mul]
  have := r.den_nz
  have := q.den_nz
  refine Qk_divInt (Int.mul_pos (by omega) (by omega)) ?_ ?_
  · rw [Int.natAbs_mul, Nat.pow_add]; exact Nat.mul_le_mul h1.1 h2.1
  · rw [Int.natAbs_mul, Nat.pow_add]; exact Nat.mul_le_mul h1.2 h2.2
theorem Qk_zero (k : Nat) : Qk k 0 := ⟨Nat.zero_le _, Nat.one_le_two_pow⟩
theorem Qk_one (k : Nat) : Qk k 1 := ⟨Nat.one_le_two_pow, Nat.one_le_two_pow⟩
/-- a part of D, of at most M -/
def Bd (M D : Nat) (r : Rat) : Prop := 0 < D ∧ ∃ n : Int, n.natAbs ≤ M ∧ r = Rat.divInt n D
theorem Bd.qk {M D k : Nat} {r : Rat} (h : Bd M D r) (hM : M ≤ 2 ^ k) (hD : D ≤ 2 ^ k) : Qk k r := by
  obtain ⟨h0, n, hn, rfl⟩ := h
  exact Qk_divInt (by omega) (Nat.le_trans hn hM) (by simpa using hD)
theorem Bd.mono {M M' D : Nat} {r : Rat} (h : Bd M D r) (hM : M ≤ M') : Bd M' D r := by
  obtain ⟨h0, n, hn, e⟩ := h
  exact ⟨h0, n, Nat.le_trans hn hM, e⟩
theorem Bd_zero {M D : Nat} (h : 0 < D) : Bd M D 0 := ⟨h, 0, Nat.zero_le _, by rw [Rat.zero_divInt]⟩
theorem Bd_add {M M' D : Nat} {r q : Rat} (h1 : Bd M D r) (h2 : Bd M' D q) : Bd (M + M') D (r + q) := by
  obtain ⟨h0, n, hn, rfl⟩ := h1
  obtain ⟨_, m, hm, rfl⟩ := h2
  exact ⟨h0, n + m, Nat.le_trans (Int.natAbs_add_le _ _) (Nat.add_le_add hn hm), by rw [Rat.divInt_add_divInt _ _ (by omega) (by omega), ← Int.add_mul, Rat.divInt_mul_right (by omega)]⟩
theorem Bd_mul {M M' D D' : Nat} {r q : Rat} (h1 : Bd M D r) (h2 : Bd M' D' q) : Bd (M * M') (D * D') (r * q) := by
  obtain ⟨h0, n, hn, rfl⟩ := h1
  obtain ⟨h0', m, hm, rfl⟩ := h2
  exact ⟨Nat.mul_pos h0 h0', n * m, by rw [Int.natAbs_mul]; exact Nat.mul_le_mul hn hm, by rw [Rat.divInt_mul_divInt]; push_cast; rfl⟩
theorem Bd_div {a b : Int} {M : Nat} (h : 0 < b) (ha : a.natAbs ≤ M) : Bd M b.toNat (Rat.divInt a b) := ⟨by omega, a, ha, by rw [Int.toNat_of_nonneg (by omega)]⟩
/-! ### the law's own quotients -/
def Pb (p : Int × Int) : Prop := p.1.natAbs < 2 ^ 4400 ∧ p.2 ≠ 0 ∧ p.2.natAbs < 2 ^ 4400
theorem Qb.pb {r : Rat} (h : Qb r) : Pb (qp r) := ⟨h.1, den_ne r, h.2⟩
theorem pb_small {a b : Int} (ha : -(2 ^ 64) < a ∧ a < 2 ^ 64) (h0 : b ≠ 0) (hb : -(2 ^ 64) < b ∧ b < 2 ^ 64) : Pb (a, b) :=
  ⟨Nat.lt_of_lt_of_le (show a.natAbs < 2 ^ 64 by omega) (Nat.pow_le_pow_right (by decide) (by decide)), h0, Nat.lt_of_lt_of_le (show b.natAbs < 2 ^ 64 by omega) (Nat.pow_le_pow_right (by decide) (by decide))⟩
theorem pb_den {a b : Int × Int} (h0 : Pb a) (h1 : Pb b) : (a.2 * b.2).natAbs < 2 ^ 8999 := by rw [Int.natAbs_mul]; exact lt_pow h0.2.2 h1.2.2
theorem pb_add {a b : Int × Int} (h0 : Pb a) (h1 : Pb b) : qv a + qv b = Rat.divInt (a.1 * b.2 + b.1 * a.2) (a.2 * b.2) := Rat.divInt_add_divInt _ _ h0.2.1 h1.2.1
theorem pb_mul (a b : Int × Int) : qv a * qv b = Rat.divInt (a.1 * b.1) (a.2 * b.2) := Rat.divInt_mul_divInt _ _
theorem lawq_gcd {a : Nat × Nat} {n : Nat} (hP : Nat.gcd a.1 a.2 = n) (hb : decide ((0 : Int) < (a.2 : Int)) = false) : a.1 = n := by
  have : a.2 = 0 := by have := of_decide_eq_false hb; omega
  rw [this, Nat.gcd_zero_right] at hP
  exact hP
theorem lawq_pos {a : Nat × Nat} {up down : Int} (hP : Nat.gcd a.1 a.2 = Nat.gcd up.natAbs down.natAbs) (hb : decide ((0 : Int) < (a.2 : Int)) = false) (h : decide ((0 : Int) < down) = true) :
    PyData.tuple [.int (up / (a.1 : Int)), .int (down / (a.1 : Int))] = eQ (Rat.divInt up down) := by
  have hd := of_decide_eq_true h
  rw [lawq_gcd hP hb]
  exact quo_pos (by omega) (decide_eq_false (by omega))
theorem lawq_neg {a : Nat × Nat} {up down : Int} (hP : Nat.gcd a.1 a.2 = Nat.gcd up.natAbs down.natAbs) (hb : decide ((0 : Int) < (a.2 : Int)) = false) (h0 : down ≠ 0) (h : decide ((0 : Int) < down) = false) :
    PyData.tuple [.int ((0 - up) / (a.1 : Int)), .int ((0 - down) / (a.1 : Int))] = eQ (Rat.divInt up down) := by
  have hd := of_decide_eq_false h
  rw [lawq_gcd hP hb, Int.zero_sub, Int.zero_sub]
  have := quo_neg (a := up) (b := down) (decide_eq_true (by omega))
  rw [Int.natAbs_neg, Int.natAbs_neg] at this
  exact this
theorem lawq_div {a : Nat × Nat} {up down i : Int} (h0 : down ≠ 0) (h1 : down.natAbs < 2 ^ 8999) (hP : Nat.gcd a.1 a.2 = Nat.gcd up.natAbs down.natAbs) (hb : decide ((0 : Int) < (a.2 : Int)) = false) : CDivG i (a.1 : Int) := by
  rw [lawq_gcd hP hb]; exact quo_div h0 h1
theorem sumQ_step {l : List Rat} {i : Nat} {x : Rat} (h : l[i]? = some x) : (l.take i).sum + x = (l.take (i + 1)).sum := by
  rw [List.take_add_one, h]
  simp [Rat.add_zero]
theorem Bd_sum {M D : Nat} {l : List Rat} (hD : 0 < D) (h : ∀ r ∈ l, Bd M D r) : Bd (l.length * M) D l.sum := by
  induction l with
  | nil => exact Bd_zero hD
  | cons a l ih =>
    rw [List.sum_cons, List.length_cons, Nat.add_mul, Nat.one_mul, Nat.add_comm]
    exact Bd_add (h a (List.mem_cons_self ..)) (ih fun r hr => h r (List.mem_cons_of_mem _ hr))
theorem Bd.qb {M D : Nat} {r : Rat} (h : Bd M D r) (hM : M < 2 ^ 4400) (hD : D < 2 ^ 4400) : Qb r := by
  obtain ⟨h0, n, hn, rfl⟩ := h
  obtain ⟨h1, h2⟩ := divInt_le n D (by omega)
  exact ⟨Nat.lt_of_le_of_lt (Nat.le_trans h1 hn) hM, Nat.lt_of_le_of_lt (by simpa using h2) hD⟩
theorem sum_qb {l : List Rat} (h : ∃ M D, (∀ r ∈ l, Bd M D r) ∧ (l.length + 1) * M < 2 ^ 4400 ∧ 0 < D ∧ D < 2 ^ 4400) (i : Nat) {x : Rat} (hx : l[i]? = some x) : Qb (l.take i).sum ∧ Qb x := by
  obtain ⟨M, D, h1, h2, h3, h4⟩ := h
  have hM : ∀ k, k ≤ l.length + 1 → k * M < 2 ^ 4400 := fun k hk => Nat.lt_of_le_of_lt (Nat.mul_le_mul_right _ hk) h2
  refine ⟨(Bd_sum h3 fun r hr => h1 r (List.mem_of_mem_take hr)).qb (hM _ (by rw [List.length_take]; omega)) h4, (h1 x (List.mem_of_getElem? hx)).qb ?_ h4⟩
  have := hM 1 (by omega)
  omega
end Nz

/-! enumerate(tuple) -/
namespace Nz
open PySem PySem.Spec PyProof.Rows L2 RZ
/-- what comes of a tuple, one by one -/
theorem drawsTup {prog : Program} {w : World} {A : Around} {it t : Addr} {items : Array Value} (free : A.handled = none) (apart : t ≠ it) :
    Draws prog w A it [it, t] items.size (fun i x => items[i]? = some x) (fun i h => h.IsTupleIter it t i ∧ h.IsTuple t items) where
  live := fun i h st => ⟨st.1.choose, st.1.choose_spec.1⟩
  frame := fun i h h' st k => ⟨⟨st.1.choose, k it (by simp) _ st.1.choose_spec.1, st.1.choose_spec.2⟩, ⟨st.2.choose, k t (by simp) _ st.2.choose_spec.1, st.2.choose_spec.2⟩⟩
  item := fun i s Q E lt st q => RZ.nextOf_tuple_item st.1 st.2 (x := items[i]) (Array.getElem?_eq_getElem lt) fun h' a sb => q _ h' s.toks (Array.getElem?_eq_getElem lt) ⟨a, st.2.extBut sb.extBut apart⟩ sb
  done := fun s Q E st q => RZ.nextOf_tuple_end free st.1 st.2 (by rw [Array.getElem?_eq_none_iff]; exact Nat.le_refl _) q
set_option maxHeartbeats 4000000 in
theorem newEnumT (l : Addr) (items : Array Value) : Meets (Builtin.«enumerate.__new__» ⟨[.type "enumerate", .ref l], []⟩) (fun _ R s => s.heap.IsTuple l items ∧
    (let mid := s.heap.push { cls := .type "tuple_iterator", data := .fields #[.ref l, .int 0 0] }
     R (.ok (.ret (.ref mid.objs.size))) { s with heap := mid.push { cls := .type "enumerate", data := .fields #[.none, .bool false, .ref s.heap.objs.size, rawInt 0, .none, .none] } })) :=
  .of_wp fun prog w A R s h => by
    obtain ⟨hp, gs, dr, tk, os⟩ := s
    obtain ⟨isT, h⟩ := h
    have isT : Heap.IsTuple (Shared.heap ⟨hp, gs, dr, tk, os⟩) l items := isT
    have sub := sub_enumerate
    have big := isT
    obtain ⟨ob, hob, hcls, n, hdat⟩ := big
    wp_walk using wpAny_loadPart' hob
    refine wpAny_stack_any fun _ => wpAny_pure ?_
    split
    · rename_i c _ _ _ _ _
      cases (c == Value.type "enumerate") <;>
      · wp_walk using wpAny_pyIter_tuple isT
        exact ⟨_, rfl, h⟩
    · wp_walk using wpAny_pyIter_tuple isT
      exact ⟨_, rfl, h⟩
section
variable {prog : Program} {w : World} {A : Around} {E : Value → Shared → Prop} {s : Shared}
theorem callEnumT {l : Addr} {items : Array Value} {Q : Value → Shared → Prop} (isT : s.heap.IsTuple l items)
    (q : ∀ h', IsEnum h' (s.heap.objs.size + 1) s.heap.objs.size 0 .none → h'.IsTupleIter s.heap.objs.size l 0 → (∀ b o, s.heap.get? b = some o → h'.get? b = some o) → Q (.ref (s.heap.objs.size + 1)) { s with heap := h' }) :
    wpAny (model prog w) A (call (.type "enumerate") [.ref l]) Q E s := by
  refine callType_new F.called_enumerate (by decide) (F.typeCall_enumerate_1 _) (F.newCall_enumerate_1 _) (fun ob => F.args_object_init_2 ob _) F.entry_enumerate_new (newEnumT l items) ⟨isT, ?_⟩
  have size1 : (s.heap.push { cls := .type "tuple_iterator", data := .fields #[.ref l, .int 0 0] }).objs.size = s.heap.objs.size + 1 := Heap.size_push ..
  dsimp only
  rw [size1]
  have isE : IsEnum ((s.heap.push { cls := .type "tuple_iterator", data := .fields #[.ref l, .int 0 0] }).push { cls := .type "enumerate", data := .fields #[.none, .bool false, .ref s.heap.objs.size, rawInt 0, .none, .none] }) (s.heap.objs.size + 1) s.heap.objs.size 0 .none := by
    have z := Heap.get?_push_size (s.heap.push { cls := .type "tuple_iterator", data := .fields #[.ref l, .int 0 0] }) (o := { cls := .type "enumerate", data := .fields #[.none, .bool false, .ref s.heap.objs.size, rawInt 0, .none, .none] }) rfl
    rwa [size1] at z
  exact ⟨⟨_, isE, rfl⟩, q _ isE ⟨_, Heap.get?_push_of_some _ (Heap.get?_push_size _ rfl), rfl, rfl⟩ fun b o x => Heap.get?_push_of_some _ (Heap.get?_push_of_some _ x)⟩
end
section
variable {prog : Program} {w : World} {A : Around} {E : Value → Shared → Prop} {s : Shared}
/-- at the end, however far behind it -/
theorem enumEndT {e it t : Addr} {i : Nat} {items : Array Value} {old : Value} {Q : Option Value → Shared → Prop} (free : A.handled = none) (isE : IsEnum s.heap e it i old) (isI : s.heap.IsTupleIter it t i) (isT : s.heap.IsTuple t items) (out : items.size ≤ i)
    (q : ∀ h', Heap.ExtBut it s.heap h' → Q none { s with heap := h' }) : wpAny (model prog w) A (pyNext (.ref e)) Q E s := by
  have D : Draws prog w A.in1 it [it, t] i (fun i x => items[i]? = some x) (fun j h => j = i ∧ h.IsTupleIter it t i ∧ h.IsTuple t items) :=
    { live := fun j h st => ⟨st.2.1.choose, st.2.1.choose_spec.1⟩
      frame := fun j h h' st k => ⟨st.1, ⟨st.2.1.choose, k it (by simp) _ st.2.1.choose_spec.1, st.2.1.choose_spec.2⟩, ⟨st.2.2.choose, k t (by simp) _ st.2.2.choose_spec.1, st.2.2.choose_spec.2⟩⟩
      item := fun j s Q E lt st q => absurd st.1 (Nat.ne_of_lt lt)
      done := fun s Q E st q => RZ.nextOf_tuple_end free st.2.1 st.2.2 (by rw [Array.getElem?_eq_none_iff]; exact out) q }
  exact wpAny_pyNext_enum_endD D isE ⟨rfl, isI, isT⟩ q
end
/-! the walk -/
def IteT (K : PySem.W.Frag) (a : Addr) : It :=
  ⟨fun i H => ∃ (xs : List V) (x : V), SqT K H a xs ∧ xs[i]? = some x,
   fun i H v H' => ∃ p x, v = .ref p ∧ H p = none ∧ H' = upd H p (.tup [.int (i : Nat), x]) ∧ ∀ xs, SqT K H a xs → xs[i]? = some x,
   fun i H => ∃ xs : List V, SqT K H a xs ∧ xs.length ≤ i⟩
theorem tup_ne_it {h : Heap} {a it : Addr} {i : Nat} {us : Array Value} (p : IsTup h a us) (q : h.IsTupleIter it a i) : a ≠ it := fun e => by
  subst e
  obtain ⟨o, ho, hc, _⟩ := p
  obtain ⟨o', ho', hc', _⟩ := q
  rw [ho] at ho'
  cases ho'
  rw [hc] at hc'
  exact absurd hc' (by decide)
theorem tup_ne_en {h : Heap} {a e it : Addr} {i : Int} {old : Value} {us : Array Value} (p : IsTup h a us) (q : IsEnum h e it i old) : a ≠ e := fun z => by
  subst z
  obtain ⟨o, ho, hc, _⟩ := p
  have q : h.get? a = some _ := q
  rw [ho] at q
  cases q
  have hc : (Value.type "enumerate") = .type "tuple" := hc
  exact absurd hc (by decide)
theorem turnEnumT {P : Program} {w : World} {K : PySem.W.Frag} {els : List Expr} {n0 : Nat} {ps : Pos} (a e it : Addr) :
    Turn P w K (.Tuple els n0 ps) (IteT K a) [e, it] e (fun i h => (∃ old, IsEnum h e it ((i : Nat) : Int) old) ∧ h.IsTupleIter it a i ∧ e ≠ it) where
  mem := List.mem_cons_self ..
  obj := fun i h st b hb => by
    obtain ⟨⟨old, isE⟩, ⟨o, ho, _, hd⟩, _⟩ := st
    rcases List.mem_cons.mp hb with rfl | hb
    · exact ⟨_, isE, fun v q => nomatch q⟩
    · have := List.mem_singleton.mp hb
      subst this
      exact ⟨o, ho, fun v q => by rw [hd] at q; cases q⟩
  keep := fun i h h' ⟨⟨old, isE⟩, ⟨o, ho, r⟩, ne⟩ k => ⟨⟨old, k e (by simp) _ isE⟩, ⟨o, k it (by simp) o ho, r⟩, ne⟩
  item := by
    intro X eP eW eK calm i pins s σ H E I fp st go
    subst eP; subst eW; subst eK
    obtain ⟨⟨old, isE⟩, isI, ne⟩ := st
    obtain ⟨xs, x, sq, hx⟩ := go
    obtain ⟨us, rel, isT, size⟩ := I.tuple sq
    obtain ⟨u, hu, ru⟩ := rel.get hx
    have eLt : e < s.heap.objs.size := Heap.lt_size isE
    have iLt : it < s.heap.objs.size := Heap.lt_size isI.choose_spec.1
    have inUs : i < us.toArray.size := by rw [List.size_toArray]; exact (List.getElem?_eq_some_iff.mp hu).1
    refine wpAny_pyNext_enum_itemD (drawsTup (I.ok.hd calm) (tup_ne_it isT isI)) isE ⟨isI, isT⟩ inUs ne (by simp [ne, (tup_ne_en isT isE).symm]) fun y h' tk hy out st' isNew size' kept => ?_
    have hy : y = u := by
      have : us.toArray[i]? = some u := by simpa using hu
      rw [this] at hy; cases hy; rfl
    subst hy
    refine ⟨_, rfl, wpAny_letOwnedTupleGo_enum (s := { s with heap := h', toks := tk + 1 }) out fun h'' isE' sb => ?_⟩
    have new2 : h''.get? s.heap.objs.size = some { cls := .type "tuple", data := .seq #[.int i tk, y] } := (sb.2 _ (Nat.ne_of_gt eLt)).trans isNew
    have I2 : Inv X pins σ (upd H s.heap.objs.size (.tup [.int (i : Nat), x])) { s with heap := h'', toks := tk + 1 } :=
      I.turnedNew (ch := [e, it]) (fun b ob nb q => by
        have nb1 : b ≠ e := fun z => nb (by simp [z])
        have nb2 : b ≠ it := fun z => nb (by simp [z])
        exact (sb.2 b nb1).trans (kept b ob nb1 nb2 q)) fp (Nat.le_refl _) ⟨show 2 ≤ sizeLine by decide, [.int i tk, y], .cons ⟨_, rfl⟩ (.cons ru .nil), ⟨_, new2, rfl, _, rfl⟩⟩
    refine ⟨.ref s.heap.objs.size, _, I2, rfl, ⟨_, x, rfl, I.hok.fresh (Nat.le_refl _), rfl, fun ys hy => by rw [I.tuple_inj hy sq]; exact hx⟩, ⟨⟨y, ?_⟩, ?_, ne⟩, fun b hb => ?_⟩
    · rw [show ((i + 1 : Nat) : Int) = (i : Int) + 1 by omega]; exact isE'
    · obtain ⟨o, ho, r⟩ := st'.1
      exact ⟨o, (sb.2 it (Ne.symm ne)).trans ho, r⟩
    · have lt : b < s.heap.objs.size := by
        rcases List.mem_cons.mp hb with rfl | hb
        · exact eLt
        · rw [List.mem_singleton.mp hb]; exact iLt
      rw [upd_ne (Nat.ne_of_lt lt)]
      exact (fp b hb).1
  done := by
    intro X eP eW eK calm i pins s σ H E I fp st stop
    subst eP; subst eW; subst eK
    obtain ⟨⟨old, isE⟩, isI, ne⟩ := st
    obtain ⟨xs, sq, le⟩ := stop
    obtain ⟨us, rel, isT, size⟩ := I.tuple sq
    obtain ⟨g0, g1, g2, g3, g4, g5⟩ := fp it (by simp)
    have len := rel.length
    exact Nz.enumEndT (I.ok.hd calm) isE isI isT (by simp; omega) fun h' eb => ⟨rfl, I.turned (t' := s.toks) (fun b o hb q => eb b o hb q) g0 g1 g3 g4 g5⟩
  self := fun A i s Q E st h => wpAny_pyIter_enum st.1.choose_spec h
def iEnumT (K : PySem.W.Frag) (ta : TA) : TI := fun σ H R => ta σ H fun vs H1 => ∃ a xs, vs = [.ref a] ∧ SqT K H1 a xs ∧ R (IteT K a) H1
theorem pi_enumT {X : Cx} {e : Expr} {ta : TA} {p pos tpos : Pos} {els : List Expr} {n0 : Nat} (hg : Gl X "enumerate") (hm : X.mg "enumerate" = none) (ha : PA X [e] ta) (hs : starEach [e] X.env = [(false, eval e X.env)] := by rfl) :
    PI X (.Tuple els n0 tpos) (.Call (.Name "enumerate" p) [e] [] pos) (iEnumT X.K ta) := ⟨fun pins s σ H R I h => Call_ (ld_blt I hg hm boot_enumerate (PyProof.Rows.callWith_type1 (thn (ha.run pos pins s σ H _ I h) fun us s1 ⟨vs, H1, I1, rel, q⟩ => by
  obtain ⟨a, xs, e1, sq, q⟩ := q
  subst e1
  obtain ⟨u, rfl, ru⟩ := rel.one
  cases ru
  obtain ⟨its, rv, isT, size⟩ := I1.tuple sq
  refine callEnumT isT fun h' isE isI kept => wpAny_pyIter_enum isE ?_
  refine ⟨s1.heap.objs.size + 1, [s1.heap.objs.size + 1, s1.heap.objs.size], _, _, H1, rfl, I1.kept (t' := s1.toks) kept, turnEnumT a (s1.heap.objs.size + 1) s1.heap.objs.size, ⟨⟨.none, isE⟩, isI, Nat.succ_ne_self _⟩, fun b hb => ?_, q⟩
  have le : s1.heap.objs.size ≤ b := by
    rcases List.mem_cons.mp hb with rfl | hb
    · exact Nat.le_succ _
    · rw [List.mem_singleton.mp hb]; exact Nat.le_refl _
  exact I1.fpOk le (I1.hok.fresh le)) hs rfl))⟩
section
variable {c : Cz} {ρ ρ1 : List Sl} {te : TE}
theorem ei_enumT {ds : List PyData} (h : Ed c ρ te (.tuple ds) ρ1) : Ei c ρ (iEnumT c.K (tCons te tNil)) (enumD ds) ρ1 := fun T σ H W R q => h T σ H W _ fun v H1 W1 => by
  obtain ⟨a, xs, rfl, hs, h2⟩ := dp_tup W1.dp
  refine ⟨a, xs, rfl, (ex_p (hide_ex _ _) hs).sq, q _ H1 [(.ref a, .tuple ds)] W1 ?_⟩
  rintro c' T' σ' H' ρ' hK W'
  obtain ⟨b, ys, e, hs', h2'⟩ := dp_tup W'.dp
  cases e
  have hs2 : SqT c.K H' a ys := hK ▸ (ex_p (hide_ex _ _) hs').sq
  have hl := dpa_length h2'
  rw [enumD_len]
  refine ⟨fun i hi => ?_, fun i hi => ⟨ys, hs2, by omega⟩⟩
  obtain ⟨x, hx, dx⟩ := dpa_get h2' (List.getElem?_eq_getElem hi)
  refine ⟨⟨ys, x, hs2, hx⟩, fun y H2 hy => ?_⟩
  obtain ⟨p, z, rfl, hp, rfl, hy⟩ := hy
  have ez := (hy ys hs2).symm.trans hx
  rw [Option.some.inj ez]
  have W2 := W'.grow (Ex.new (o := .tup [.int (i : Nat), x]) hp)
  have e2 : Ex (hide (hid c' ρ') H') (hide (hid c' ρ') (upd H' p (.tup [.int (i : Nat), x]))) := hide_mono fun a o n h => ⟨n, Ex.new hp a o h⟩
  exact ⟨_, enumD_get (List.getElem?_eq_getElem hi), p, [.int (i : Nat), x], rfl, .inl (.inl upd_same), rfl, (W2.push (dpm e2 dx)).push (.int _)⟩
theorem ei_enumTX {α : Type} {f : α → PyData} {l : List α} (h : Ed c ρ te (.tuple (l.map f)) ρ1) : Ei c ρ (iEnumT c.K (tCons te tNil)) (l.zipIdx.map fun p => Itm.soft [PyData.int (p.2 : Int), f p.1]) ρ1 := by
  have := ei_enumT h
  unfold enumD at this
  rw [List.zipIdx_map, List.map_map] at this
  exact this
end
end Nz

/-! more rules: in, range downward, the last place of a list -/
namespace Nz
open PySem PySem.Spec PyProof.Rows L2 RZ
section
variable {c : Cz} {ρ ρ1 ρ2 ρ3 : List Sl} {ta tb te tc : TE} {d : PyData} {T : Tm}
theorem flat_ints (l : List Int) : (l.map V.int).all flatV = true := by rw [List.all_map, List.all_eq_true]; exact fun _ _ => rfl
theorem flat_strs (l : List Str) : (l.map V.str).all flatV = true := by rw [List.all_map, List.all_eq_true]; exact fun _ _ => rfl
theorem inV_int (i : Int) (l : List Int) : inV (.int i) (l.map V.int) = decide (i ∈ l) := by
  unfold inV
  rw [List.any_map]
  induction l with
  | nil => rfl
  | cons a l ih =>
    rw [List.any_cons, ih]
    by_cases e : a = i
    · subst e; simp [eqV]
    · have e' : ¬ i = a := fun z => e z.symm
      simp [eqV, e, e']
theorem inV_str (i : Str) (l : List Str) : inV (.str i) (l.map V.str) = decide (i ∈ l) := by
  unfold inV
  rw [List.any_map]
  induction l with
  | nil => rfl
  | cons a l ih =>
    rw [List.any_cons, ih]
    by_cases e : a = i
    · subst e; simp [eqV]
    · have e' : ¬ i = a := fun z => e z.symm
      simp [eqV, e, e']
theorem dpaStrs {K : PySem.W.Frag} {H : Hp} : ∀ {ns : List Str} {xs : List V}, DzAll K H xs (ns.map .str) → xs = ns.map V.str
  | [], _, h => by cases h; rfl
  | n :: ns, _, h => by
    cases h with
    | cons a b => rw [dp_str a, dpaStrs b]; rfl
theorem ed_inSq {neg : Bool} {v : PyData} {ds : List PyData} {s : PyData} {b : Bool} (hs : s = .list ds ∨ s = .tuple ds) (ha : Ed c ρ ta v ρ1) (hb : Ed c ρ1 tb s ρ2)
    (hi : ∀ (H : Hp) (x : V) (xs : List V), Dz c.K H x v → DzAll c.K H xs ds → flatV x = true ∧ xs.all flatV = true ∧ inV x xs = b) : Ed c ρ (tOp (rIn c.K neg) ta tb) (.bool (if neg then !b else b)) ρ2 :=
  ed_op ha hb fun T σ H x y W hx hy Q q => by
    rcases hs with rfl | rfl
    · obtain ⟨a, xs, rfl, sq, all⟩ := dp_lst hy
      obtain ⟨f1, f2, f3⟩ := hi _ _ _ hx all
      exact ⟨a, xs, rfl, .inl (ex_l (hide_ex _ _) sq), f1, f2, by rw [f3]; exact q _ H (W.push (.bl _))⟩
    · obtain ⟨a, xs, rfl, sq, all⟩ := dp_tup hy
      obtain ⟨f1, f2, f3⟩ := hi _ _ _ hx all
      exact ⟨a, xs, rfl, .inr (ex_p (hide_ex _ _) sq).sq, f1, f2, by rw [f3]; exact q _ H (W.push (.bl _))⟩
theorem in_ints {K : PySem.W.Frag} {i : Int} {l : List Int} (H : Hp) (x : V) (xs : List V) (hx : Dz K H x (.int i)) (h : DzAll K H xs (l.map .int)) : flatV x = true ∧ xs.all flatV = true ∧ inV x xs = decide (i ∈ l) := by
  rw [dp_int hx, dpaInts h]
  exact ⟨rfl, flat_ints l, inV_int i l⟩
theorem in_strs {K : PySem.W.Frag} {i : Str} {l : List Str} (H : Hp) (x : V) (xs : List V) (hx : Dz K H x (.str i)) (h : DzAll K H xs (l.map .str)) : flatV x = true ∧ xs.all flatV = true ∧ inV x xs = decide (i ∈ l) := by
  rw [dp_str hx, dpaStrs h]
  exact ⟨rfl, flat_strs l, inV_str i l⟩
theorem ed_inLI {i : Int} {l : List Int} (ha : Ed c ρ ta (.int i) ρ1) (hb : Ed c ρ1 tb (.list (l.map .int)) ρ2) : Ed c ρ (tOp (rIn c.K false) ta tb) (.bool (decide (i ∈ l))) ρ2 := ed_inSq (.inl rfl) ha hb in_ints
theorem ed_inTI {i : Int} {l : List Int} (ha : Ed c ρ ta (.int i) ρ1) (hb : Ed c ρ1 tb (.tuple (l.map .int)) ρ2) : Ed c ρ (tOp (rIn c.K false) ta tb) (.bool (decide (i ∈ l))) ρ2 := ed_inSq (.inr rfl) ha hb in_ints
theorem ed_ninLI {i : Int} {l : List Int} (ha : Ed c ρ ta (.int i) ρ1) (hb : Ed c ρ1 tb (.list (l.map .int)) ρ2) : Ed c ρ (tOp (rIn c.K true) ta tb) (.bool (!decide (i ∈ l))) ρ2 := ed_inSq (neg := true) (.inl rfl) ha hb in_ints
theorem ed_ninTI {i : Int} {l : List Int} (ha : Ed c ρ ta (.int i) ρ1) (hb : Ed c ρ1 tb (.tuple (l.map .int)) ρ2) : Ed c ρ (tOp (rIn c.K true) ta tb) (.bool (!decide (i ∈ l))) ρ2 := ed_inSq (neg := true) (.inr rfl) ha hb in_ints
theorem ed_inTS {i : Str} {l : List Str} (ha : Ed c ρ ta (.str i) ρ1) (hb : Ed c ρ1 tb (.tuple (l.map .str)) ρ2) : Ed c ρ (tOp (rIn c.K false) ta tb) (.bool (decide (i ∈ l))) ρ2 := ed_inSq (.inr rfl) ha hb in_strs
theorem ed_ninTS {i : Str} {l : List Str} (ha : Ed c ρ ta (.str i) ρ1) (hb : Ed c ρ1 tb (.tuple (l.map .str)) ρ2) : Ed c ρ (tOp (rIn c.K true) ta tb) (.bool (!decide (i ∈ l))) ρ2 := ed_inSq (neg := true) (.inr rfl) ha hb in_strs
/-! range(a, b, -1) -/
def rngDn (a b : Int) : List Int := (List.range (a - b).toNat).map fun (i : Nat) => a - (i : Int)
theorem ei_rngDn {a b : Int} (h : Ed c ρ ta (.int a) ρ1) (h2 : Ed c ρ1 tb (.int b) ρ2) (h3 : Ed c ρ2 tc (.int (-1)) ρ3) (hn : (-4000000000 ≤ a ∧ a ≤ 4000000000) ∧ -4000000000 ≤ b ∧ b ≤ 4000000000) :
    Ei c ρ (iRng3 (tCons ta (tCons tb (tCons tc tNil)))) ((rngDn a b).map fun (i : Int) => Itm.hard (PyData.int i)) ρ3 := fun T σ H W R q => h T σ H W _ fun v H1 W1 => h2 _ σ H1 W1 _ fun w H2 W2 => h3 _ σ H2 W2 _ fun z H3 W3 => by
  refine ⟨a, b, -1, (a - b).toNat, by rw [dp_int W3.pop.pop.dp, dp_int W3.pop.dp, dp_int W3.dp], RgC.neg (by omega) (by omega) (by omega) (by omega), q _ H3 [] W3.pop.pop.pop ?_⟩
  intro c' T' σ' H' ρ' hK W'
  have hl : ((rngDn a b).map fun (i : Int) => Itm.hard (PyData.int i)).length = (a - b).toNat := by unfold rngDn; simp
  rw [hl]
  refine ⟨fun i hi => ⟨hi, fun x H4 hy => ?_⟩, fun i hi => hi⟩
  obtain ⟨rfl, rfl⟩ := hy
  refine ⟨.hard (.int (a - (i : Int))), ?_, ?_⟩
  · unfold rngDn
    rw [List.map_map, List.getElem?_map, List.getElem?_range hi]; rfl
  · have e : a + ((i : Nat) : Int) * -1 = a - (i : Int) := by omega
    rw [e]
    exact W'.push (.int _)
/-! the last place of a list -/
variable {D : Ends} {nx bk ct : L2.St → Hp → Prop} {rt : VK}
theorem s_setLast {α : Type} {f : α → PyData} {i : Nat} {l : Bool} {a : Addr} {xs : List α} {x : α} {j : Int} (h : Ed c ρ te (f x) ρ1) (hj : Ed c ρ1 tb (.int j) ρ2) (h0 : ∃ l o, ρ1[i]? = some (.mu l a o)) (ha : ρ2[i]? = some (.mu l a (.lst (xs.map f)))) (hn : j = -1 ∧ 0 < xs.length)
    (k : Sk c T (ρ2.set i (.mu l a (.lst ((xs.set (xs.length - 1) x).map f)))) nx) : Ss c T ρ (tAsg te (gSub (tVar i) tb rSetL)) ⟨nx, rt, bk, ct⟩ :=
  s_setL h hj h0 ha (n := xs.length - 1) (by
    obtain ⟨rfl, h0⟩ := hn
    unfold ixN
    rw [if_neg (by decide), if_pos (by rw [List.length_map]; omega)]
    congr 1
    rw [List.length_map]; omega) (by rw [← List.map_set]; exact k)
end
/-- the items of a list within a comprehension: K said, that no name of the inner block goes into the walk's word -/
theorem pi_listK {X : Cx} {tg l : Expr} {tl : TE} (K : PySem.W.Frag) (hl : PE X l tl) (e : X.K = K := by rfl) : PI X tg l (iList K tl) := e ▸ pi_list hl
section
variable {c : Cz} {ρ ρ1 : List Sl} {T : Tm} {nx bk ct : L2.St → Hp → Prop} {rt : VK}
theorem aa3 {K : PySem.W.Frag} {H : Hp} {vs : List V} {d d1 d2 : PyData} (a : AA K H vs [.dat d, .dat d1, .dat d2]) : ∃ u v w, vs = [u, v, w] ∧ Dz K H u d ∧ Dz K H v d1 ∧ Dz K H w d2 := by
  cases a with
  | dat h t =>
    obtain ⟨v, w, rfl, h2, h3⟩ := aa2 t
    exact ⟨_, v, w, rfl, h, h2, h3⟩
/-- a, b, d = x, y, z -/
theorem s_par3 {i j l : Nat} {x y z : PyData} {tp : TA} (h : Ea c ρ tp [.dat x, .dat y, .dat z] ρ1) (k : Sk c T (((ρ1.set i (.da x)).set j (.da y)).set l (.da z)) nx) : Ss c T ρ (tPar3 i j l tp) ⟨nx, rt, bk, ct⟩ := fun σ H W => h T σ H W _ fun vs H1 a W1 => by
  obtain ⟨u, v, w, rfl, h1, h2, h3⟩ := aa3 a
  refine ⟨u, v, w, rfl, ?_⟩
  have W2 := (((W1.push h3).push h2).push h1).setD i h1
  have W3 := W2.pop.setD j (W2.tmp (v, y) (by simp))
  have W4 := W3.pop.setD l (W3.tmp (w, z) (by simp))
  exact k _ _ W4.pop
end
end Nz

/-! set(a list of kints), and that set sorted -/
namespace Nz
open PySem PySem.Spec PyProof.Rows L2 RZ
section
variable {P : Program} {w : World} {A : Around} {E : Value → Shared → Prop} {s : Shared}
abbrev noneIn (w : World) : Obj := { cls := .type "set", dict := none, data := .set #[] 0 (.fresh 0 0 (!w.params.followText "set-order")) }
set_option maxHeartbeats 8000000 in
theorem list_toSet {at_ : Addr} {vals : Array Value} (ks : List Int) {Q : Value → Shared → Prop} (calm : A.handled = none) (isL : s.heap.IsList at_ vals) (kints : IntsAre vals.toList ks) (few : ks.length + 1 < scanBound)
    (fin_ : ∀ (g' : Heap) (n c : Nat), SetR w g' s.heap.objs.size (fun j => decide (j ∈ ks)) c → c ≤ ks.length → (∀ b o, s.heap.get? b = some o → g'.get? b = some o) → Q (.ref s.heap.objs.size) { s with heap := g', toks := n }) :
    wpAny (model P w) A (call (.type "set") [.ref at_]) Q E s := by
  have size_ks : vals.size = ks.length := by have z := IntsAre.length kints; rwa [Array.length_toList] at z
  obtain ⟨cc, ctl, order⟩ := F.called_set.mro
  have made_ := F.called_set.made; have sub_ := F.called_set.sub; have kind1 := F.called_set.notType; have kind2 := F.called_set.canCreate; have called := F.typeCall_set_1 (.ref at_)
  refine wpAny_call (codeAny_of_tree ?_); show wpAny _ _ (callAny (.type "set") _) _ _ _
  refine wpAny_pure ⟨Code.quiet_builtin _ (by decide +kernel), codeAny_builtin F.entry_type_call ?_⟩; rw [Around.under_plain (weight_type_call_type "set" [.ref at_] []) rfl]
  repeat (any_goals (first | wp_step | assumption))
  refine codeAny_mono (code_set_led1 (.ref at_) (E := E) (Q₁ := fun z s₁ => z = .ref s.heap.objs.size ∧ s₁ = { s with heap := s.heap.push (noneIn w) }) ⟨rfl, rfl⟩) fun res s₁ hres => ?_
  match res, hres with
  | .error _, hres => exact hres
  | .ok (.ret z), hres =>
    obtain ⟨rfl, rfl⟩ := hres
    have newS : (s.heap.push (noneIn w)).get? s.heap.objs.size = some (noneIn w) := Heap.get?_push_size _ rfl
    have tyS : Shared.TypeIs { s with heap := s.heap.push (noneIn w) } (.ref s.heap.objs.size) "set" := ⟨_, newS, rfl⟩
    have look := F.called_set.init.lookup; have bind_ := F.called_set.init.bind (.ref s.heap.objs.size)
    repeat (any_goals (first | wp_step | assumption))
    refine codeAny_mono (codeAny_call_builtin (R := wants (fun z s₂ => z = .none ∧ ∃ g' n c, s₂ = { s with heap := g', toks := n } ∧ SetR w g' s.heap.objs.size (fun j => decide (j ∈ ks)) c ∧ c ≤ ks.length ∧ ∀ b o, s.heap.get? b = some o → g'.get? b = some o) E)
      F.called_set.init.plain F.entry_set_init (check_set_init_1 tyS ?_)) fun res₂ s₂ hres₂ => ?_
    · obtain ⟨oL, getL, clsL, nL, datL⟩ := isL
      obtain ⟨kcls, kdict, kdata, kslots⟩ := oL
      dsimp only at clsL datL
      subst clsL datL
      have getL2 : (s.heap.push (noneIn w)).get? at_ = some { cls := .type "list", dict := kdict, data := .seq vals nL, slots := kslots } := Heap.get?_push_of_some _ getL
      have no1 := F.sub_list_set; have no2 := F.sub_list_frozenset
      have no3 : (Value.type "list" == Value.type "dict") = false := by decide
      have isL2 : (s.heap.push (noneIn w)).IsList at_ vals := ⟨_, getL2, rfl, nL, rfl⟩
      unfold Builtin.«set.__init__» noKeywords Builtin.Frozenset.updateFrom
      generalize hPI : pyIter = PI
      wp_walk
      subst hPI
      refine wpAny_pyIter_list isL2 (wpAny_bind (wpAny_runValue ?_))
      have ltL : at_ < s.heap.objs.size := Heap.lt_size getL
      have calm3 : A.in1.in1.in1.handled = none := by simp [calm]
      have neI : at_ ≠ (s.heap.push (noneIn w)).objs.size := (Heap.size_push ..).symm ▸ Nat.ne_of_lt (Nat.lt_succ_of_lt ltL)
      have out_ : s.heap.objs.size ∉ [(s.heap.push (noneIn w)).objs.size, at_] := by
        rw [Heap.size_push]; intro hm; rcases List.mem_cons.mp hm with e | e
        · exact absurd e (Nat.ne_of_lt (Nat.lt_succ_self _))
        · exact absurd (List.mem_singleton.mp e) (Nat.ne_of_gt ltL)
      have item_ : ∀ (i : Nat) (v : Value), vals[i]? = some v → ∃ k t, ks[i]? = some k ∧ v = .int k t := fun i v hv => by
        have hi : i < ks.length := by rw [← size_ks]; exact (Array.getElem?_eq_some_iff.mp hv).1
        obtain ⟨t, e⟩ := IntsAre.int_at kints i v (by rw [Array.getElem?_toList]; exact hv)
        exact ⟨ks[i], t, List.getElem?_eq_getElem hi, by rw [e, List.getD_eq_getElem?_getD, List.getElem?_eq_getElem hi] <;> rfl⟩
      refine set_update_ints ((Walks.list calm3 _ at_ neI vals).toS) s.heap.objs.size out_ ks size_ks few item_ (vals.size - 0) 0 _ (by omega) (Nat.zero_le _) ⟨⟨_, Heap.get?_push_size _ rfl, rfl, rfl⟩, (isL2.push _)⟩ ?h0 ?h1
      case h0 => exact ⟨0, Nat.le_refl 0, setR_new_at (Heap.get?_push_of_some _ newS)⟩
      case h1 =>
        intro s' c' mv hc' hS'
        have e1 := mv.gens; have e2 := mv.drawn; have e3 := mv.os; have keep := mv.heap
        obtain ⟨g', gn', dr', tk', os'⟩ := s'
        dsimp only at e1 e2 e3 hS' keep
        subst e1 e2 e3
        show wpAny _ _ _ _ _ _
        refine wpAny_pure ?_
        show wpAny _ _ (ret Value.none) _ _ _
        refine wpAny_pure ⟨rfl, g', tk', c', rfl, hS', by omega, fun b o e => ?_⟩
        have lb : b < s.heap.objs.size := Heap.lt_size e
        refine keep b o ?_ (Heap.get?_push_of_some _ (Heap.get?_push_of_some _ e))
        intro hm; rcases List.mem_cons.mp hm with q | q
        · exact absurd q (Nat.ne_of_lt lb)
        · refine absurd (List.mem_singleton.mp q) ?_
          rw [Heap.size_push]; exact Nat.ne_of_lt (Nat.lt_succ_of_lt lb)
    · match res₂, hres₂ with
      | .error _, hres₂ => exact hres₂
      | .ok (.ret z), hres₂ =>
        obtain ⟨rfl, g', n, c, rfl, hS', hc', keep⟩ := hres₂
        repeat (any_goals (first | wp_step | assumption))
        exact fin_ _ _ _ hS' hc' keep
end
section
variable {X : Cx}
/-- set(a list of kints) -/
def rSetLI (K : PySem.W.Frag) (w : World) : List V → Hp → VK → Prop := fun xs H Q => ∃ (a : Addr) (ns : List Int), xs = [.ref a] ∧ SqL K H a (ns.map V.int) ∧ ns.length < 64 ∧ ∀ p c, H p = none → c ≤ ns.length → Q (.ref p) (upd H p (SetO w p (fun j => decide (j ∈ ns)) c))
theorem cr_setLI (hc : X.calm = true) : CallR X (.type "set") (rSetLI X.K X.w) := by
  intro pins s σ H xs us Q I r h
  obtain ⟨a, ns, rfl, hl, h64, q⟩ := h
  obtain ⟨its, rv, pl, hz⟩ := I.list hl
  rw [Vals.ref1 r]
  refine list_toSet ns (I.ok.hd hc) pl.isList (by simpa using rv.ints) (by unfold scanBound; omega) fun g' n c R hle keep => ?_
  exact ⟨.ref _, upd H s.heap.objs.size (SetO X.w s.heap.objs.size (fun j => decide (j ∈ ns)) c), I.laid (t' := n) keep (Nat.le_refl _) (setO_new R), rfl, q _ _ (I.hok.fresh (Nat.le_refl _)) hle⟩
end
end Nz

/-! dicts with ints as keys; sorted ints; sets of ints sorted -/
namespace Nz
open PySem PySem.Spec PyProof.Rows L2 RZ
section
variable {κ : Type} [DecidableEq κ] {β γ : Type}
def putP (l : List (κ × β)) (k : κ) (x : β) : List (κ × β) :=
  match l.any (fun p => decide (p.1 = k)) with
  | true => l.map fun p => if p.1 = k then (p.1, x) else p
  | false => l ++ [(k, x)]
def valP (l : List (κ × β)) (k : κ) : Option β := (l.find? fun p => decide (p.1 = k)).map Prod.snd
theorem putP_len (l : List (κ × β)) (k : κ) (x : β) : (putP l k x).length ≤ l.length + 1 := by unfold putP; split <;> simp
theorem putP_keys {l : List (κ × β)} {k : κ} {x : β} {j : κ} : j ∈ (putP l k x).map Prod.fst ↔ j = k ∨ j ∈ l.map Prod.fst := by
  unfold putP
  split
  · rename_i h
    rw [List.map_map]
    have e : (Prod.fst ∘ fun p : κ × β => if p.1 = k then (p.1, x) else p) = Prod.fst := by funext p; show (if p.1 = k then (p.1, x) else p).1 = p.1; split <;> rfl
    rw [e]
    constructor
    · exact Or.inr
    · rintro (rfl | h2)
      · obtain ⟨p, hp, hk⟩ := List.any_eq_true.mp h
        exact List.mem_map.mpr ⟨p, hp, of_decide_eq_true hk⟩
      · exact h2
  · rw [List.map_append, List.mem_append]
    simp
    constructor
    · rintro (h | h)
      · exact .inr h
      · exact .inl h
    · rintro (h | h)
      · exact .inr h
      · exact .inl h
theorem valP_put {l : List (κ × β)} {k j : κ} {x : β} : valP (putP l k x) j = if j = k then some x else valP l j := by
  unfold putP
  split
  · rename_i h
    unfold valP
    have e : ((fun p : κ × β => decide (p.1 = j)) ∘ fun p : κ × β => if p.1 = k then (p.1, x) else p) = fun p => decide (p.1 = j) := by
      funext p; show decide ((if p.1 = k then (p.1, x) else p).1 = j) = _; split <;> rfl
    rw [List.find?_map, e]
    cases hf : l.find? (fun p => decide (p.1 = j)) with
    | none =>
      by_cases q : j = k
      · subst q
        obtain ⟨p, hp, hk⟩ := List.any_eq_true.mp h
        exact absurd hk (List.find?_eq_none.mp hf p hp)
      · rw [if_neg q]; rfl
    | some p =>
      have hp : p.1 = j := of_decide_eq_true (List.find?_some (p := fun p : κ × β => decide (p.1 = j)) hf)
      show some (if p.1 = k then (p.1, x) else p).2 = _
      rw [hp]
      by_cases q : j = k
      · rw [if_pos q, if_pos q]
      · rw [if_neg q, if_neg q]; rfl
  · rename_i h
    unfold valP
    rw [List.find?_append]
    by_cases e : j = k
    · subst e
      have : List.find? (fun p => decide (p.1 = j)) l = none := by
        rw [List.find?_eq_none]
        intro p hp
        have := List.any_eq_false.mp h p hp
        simpa using this
      rw [this]; simp
    · rw [if_neg e]
      have : List.find? (fun p : κ × β => decide (p.1 = j)) [(k, x)] = none := by
        simp; exact fun z => e z.symm
      rw [this, Option.or_none]
theorem putP_map {κ' : Type} [DecidableEq κ'] {e : κ → κ'} (he : ∀ a b, e a = e b → a = b) (f : β → γ) (l : List (κ × β)) (k : κ) (x : β) : (putP l k x).map (fun p => (e p.1, f p.2)) = putP (l.map fun p => (e p.1, f p.2)) (e k) (f x) := by
  have d : ∀ a : κ, decide (e a = e k) = decide (a = k) := fun a => by
    by_cases q : a = k
    · subst q; simp
    · rw [decide_eq_false q, decide_eq_false fun z => q (he _ _ z)]
  unfold putP
  have ea : (l.map fun p => (e p.1, f p.2)).any (fun p => decide (p.1 = e k)) = l.any fun p => decide (p.1 = k) := by
    rw [List.any_map]; congr 1; funext p; exact d p.1
  rw [ea]
  split
  · rw [List.map_map, List.map_map]
    refine List.map_congr_left fun p _ => ?_
    show (e (if p.1 = k then (p.1, x) else p).1, f (if p.1 = k then (p.1, x) else p).2) = if e p.1 = e k then (e p.1, f x) else (e p.1, f p.2)
    by_cases q : p.1 = k
    · rw [if_pos q, if_pos (congrArg e q)]
    · rw [if_neg q, if_neg fun z => q (he _ _ z)]
  · rw [List.map_append]; rfl
theorem valP_map {κ' : Type} [DecidableEq κ'] {e : κ → κ'} (he : ∀ a b, e a = e b → a = b) (f : β → γ) (l : List (κ × β)) (k : κ) : valP (l.map fun p => (e p.1, f p.2)) (e k) = (valP l k).map f := by
  have d : ((fun p : κ' × γ => decide (p.1 = e k)) ∘ fun p : κ × β => (e p.1, f p.2)) = fun p => decide (p.1 = k) := by
    funext p
    show decide (e p.1 = e k) = _
    by_cases q : p.1 = k
    · rw [q]; simp
    · rw [decide_eq_false q, decide_eq_false fun z => q (he _ _ z)]
  unfold valP
  rw [List.find?_map, d, Option.map_map, Option.map_map]
  rfl
end
/-! what the machine's tables say of data -/
section
variable {κ : Type} [DecidableEq κ] {K : PySem.W.Frag} {H : Hp}
theorem kvd_len {xs : List (κ × V)} {ks : List (κ × PyData)} (h : KVd K H xs ks) : xs.length = ks.length := Paired.length h
theorem kvd_keys : ∀ {xs : List (κ × V)} {ks : List (κ × PyData)}, KVd K H xs ks → xs.map Prod.fst = ks.map Prod.fst
  | _, _, .nil => rfl
  | _, _, .cons h t => by rw [List.map_cons, List.map_cons, h.1, kvd_keys t]
theorem kvd_val {k : κ} : ∀ {xs : List (κ × V)} {ks : List (κ × PyData)}, KVd K H xs ks → (∀ d, valP ks k = some d → ∃ v, valV xs k = some v ∧ Dz K H v d) ∧ (valP ks k = none → valV xs k = none)
  | _, _, .nil => ⟨fun d h => (nomatch h), fun _ => rfl⟩
  | (x :: xs), (y :: ys), .cons h t => by
    obtain ⟨i1, i2⟩ := kvd_val (k := k) t
    by_cases q : y.1 = k
    · have q' : x.1 = k := h.1.trans q
      rw [valV_pos q']
      have e : valP (y :: ys) k = some y.2 := by unfold valP; rw [List.find?_cons]; simp [q]
      rw [e]
      exact ⟨fun d z => ⟨x.2, rfl, Option.some.inj z ▸ h.2⟩, fun z => by cases z⟩
    · have q' : ¬ x.1 = k := fun z => q (h.1.symm.trans z)
      rw [valV_neg q']
      have e : valP (y :: ys) k = valP ys k := by unfold valP; rw [List.find?_cons]; simp [q]
      rw [e]
      exact ⟨i1, i2⟩
theorem kvd_any {k : κ} : ∀ {xs : List (κ × V)} {ks : List (κ × PyData)}, KVd K H xs ks → (xs.any fun p => decide (p.1 = k)) = ks.any fun p => decide (p.1 = k)
  | _, _, .nil => rfl
  | _, _, .cons h t => by rw [List.any_cons, List.any_cons, h.1, kvd_any t]
theorem kvd_snoc {k : κ} {v : V} {d : PyData} (hv : Dz K H v d) : ∀ {xs : List (κ × V)} {ks : List (κ × PyData)}, KVd K H xs ks → KVd K H (xs ++ [(k, v)]) (ks ++ [(k, d)])
  | _, _, .nil => .cons ⟨rfl, hv⟩ .nil
  | _, _, .cons h t => .cons h (kvd_snoc hv t)
theorem kvd_repl {k : κ} {v : V} {d : PyData} (hv : Dz K H v d) : ∀ {xs : List (κ × V)} {ks : List (κ × PyData)}, KVd K H xs ks → KVd K H (xs.map fun p => if p.1 = k then (p.1, v) else p) (ks.map fun p => if p.1 = k then (p.1, d) else p)
  | _, _, .nil => .nil
  | (x :: xs), (y :: ys), .cons h t => by
    refine .cons ?_ (kvd_repl hv t)
    show (if x.1 = k then (x.1, v) else x).1 = (if y.1 = k then (y.1, d) else y).1 ∧ Dz K H (if x.1 = k then (x.1, v) else x).2 (if y.1 = k then (y.1, d) else y).2
    by_cases q : y.1 = k
    · rw [if_pos q, if_pos (h.1.trans q)]; exact ⟨h.1, hv⟩
    · rw [if_neg q, if_neg fun z => q (h.1.symm.trans z)]; exact h
theorem kvd_put {k : κ} {v : V} {d : PyData} {xs : List (κ × V)} {ks : List (κ × PyData)} (h : KVd K H xs ks) (hv : Dz K H v d) : KVd K H (putK xs k v) (putP ks k d) := by
  unfold putK putP
  have e := kvd_any (k := k) h
  cases q : ks.any fun p => decide (p.1 = k) with
  | true => rw [q] at e; rw [if_pos e]; exact kvd_repl hv h
  | false => rw [q] at e; rw [if_neg (by rw [e]; decide)]; exact kvd_snoc hv h
end
theorem inl_inj (a b : Int) (h : (Sum.inl a : Key) = Sum.inl b) : a = b := Sum.inl.inj h
abbrev eD {α : Type} (f : α → PyData) (l : List (Int × α)) : List (Key × PyData) := l.map fun p => (Sum.inl p.1, f p.2)
theorem eD_put {α : Type} (f : α → PyData) (l : List (Int × α)) (k : Int) (x : α) : putP (eD f l) (Sum.inl k) (f x) = eD f (putP l k x) := (putP_map inl_inj f l k x).symm
theorem eD_val {α : Type} (f : α → PyData) (l : List (Int × α)) (k : Int) : valP (eD f l) (Sum.inl k) = (valP l k).map f := valP_map inl_inj f l k
/-! ints, sorted -/
def sortI (l : List Int) : List Int := l.mergeSort fun a b => decide (a ≤ b)
theorem sortI_perm (l : List Int) : (sortI l).Perm l := List.mergeSort_perm l _
theorem sortI_asc (l : List Int) : (sortI l).Pairwise (· ≤ ·) := by
  have h := List.pairwise_mergeSort (le := fun a b : Int => decide (a ≤ b)) (fun a b c h1 h2 => by simp at *; omega) (fun a b => by simp; omega) l
  exact h.imp fun {a b} z => of_decide_eq_true z
theorem sortI_len (l : List Int) : (sortI l).length = l.length := (sortI_perm l).length_eq
theorem sortI_mem {l : List Int} {x : Int} : x ∈ sortI l ↔ x ∈ l := (sortI_perm l).mem_iff
theorem sortI_un {l ys : List Int} (h : ys.Perm l) (h2 : ys.Pairwise (· ≤ ·)) : ys = sortI l :=
  List.Perm.eq_of_pairwise (fun a b _ _ h1 h2 => by omega) h2 (sortI_asc l) (h.trans (sortI_perm l).symm)
/-- each once, ascending -/
def dd1 : List Int → List Int
  | [] => []
  | a :: l => if a ∈ l then dd1 l else a :: dd1 l
theorem dd1_mem : ∀ {l : List Int} {x : Int}, x ∈ dd1 l ↔ x ∈ l
  | [], _ => Iff.rfl
  | a :: l, x => by
    unfold dd1
    split
    · rename_i h
      rw [dd1_mem, List.mem_cons]
      exact ⟨.inr, fun z => z.elim (fun e => e ▸ h) id⟩
    · rw [List.mem_cons, List.mem_cons, dd1_mem]
theorem dd1_nodup : ∀ l : List Int, (dd1 l).Nodup
  | [] => .nil
  | a :: l => by
    unfold dd1
    split
    · exact dd1_nodup l
    · rename_i h
      exact List.nodup_cons.mpr ⟨fun z => h (dd1_mem.mp z), dd1_nodup l⟩
theorem dd1_len : ∀ l : List Int, (dd1 l).length ≤ l.length
  | [] => Nat.le_refl _
  | a :: l => by
    unfold dd1
    have := dd1_len l
    split
    · rw [List.length_cons]; omega
    · rw [List.length_cons, List.length_cons]; omega
def sortU (l : List Int) : List Int := sortI (dd1 l)
theorem sortU_len (l : List Int) : (sortU l).length ≤ l.length := by unfold sortU; rw [sortI_len]; exact dd1_len l
theorem sortU_mem {l : List Int} {x : Int} : x ∈ sortU l ↔ x ∈ l := by unfold sortU; rw [sortI_mem, dd1_mem]
theorem asc_strict : ∀ {l : List Int}, l.Pairwise (· ≤ ·) → l.Nodup → l.Pairwise (· < ·)
  | [], _, _ => .nil
  | a :: l, h, n => by
    rw [List.pairwise_cons] at h ⊢
    rw [List.nodup_cons] at n
    exact ⟨fun b hb => by have := h.1 b hb; have : a ≠ b := fun e => n.1 (e ▸ hb); omega, asc_strict h.2 n.2⟩
theorem sortU_asc (l : List Int) : (sortU l).Pairwise (· < ·) := asc_strict (sortI_asc _) ((sortI_perm _).nodup_iff.mpr (dd1_nodup l))
theorem strict_nodup {l : List Int} (h : l.Pairwise (· < ·)) : l.Nodup := h.imp fun {a b} z e => by omega
theorem sortU_un {l ys : List Int} (h : ys.Pairwise (· < ·)) (h2 : ∀ x, x ∈ ys ↔ x ∈ l) : ys = sortU l := by
  refine List.Perm.eq_of_pairwise (le := (· < ·)) (fun a b _ _ h1 h2 => by omega) h (sortU_asc l) ?_
  exact (List.perm_ext_iff_of_nodup (strict_nodup h) (strict_nodup (sortU_asc l))).mpr fun x => by rw [h2, sortU_mem]
/-! ### the machine: dicts in slots -/
section
variable {c : Cz} {ρ ρ1 ρ2 ρ3 : List Sl} {ta tb te tv ty : TE} {t u : TT} {d d1 d2 d3 : PyData} {T : Tm} {H H' : Hp} {σ : L2.St}
variable {D : Ends} {ts tu : TS} {g : TG} {nx bk ct : L2.St → Hp → Prop} {rt : VK}
/-- x = {} -/
theorem s_asgD {i : Nat} (k : ∀ p, Sk c T (ρ.set i (.mu true p (.dK []))) nx) : Ss c T ρ (tAsg tDNewK (gName i)) ⟨nx, rt, bk, ct⟩ := fun σ H W p hp =>
  k p _ _ ((W.hideNew (o := .dK []) hp).setM W.sub i (by rw [if_pos rfl]; exact W.freshB hp) (W.fresh hp) ⟨[], upd_same, .nil⟩)
theorem upd_hid {a : Addr} {S : List Addr} {o : HO} (h : a ∈ S) : Ex (hide S H) (hide S (upd H a o)) := hide_mono fun b u nb e => ⟨nb, by rw [upd_ne (fun q => nb (by rw [q]; exact h))]; exact e⟩
/-- x[k] = v, of a dict -/
theorem s_dput {i : Nat} {l : Bool} {a : Addr} {ks : List (Key × PyData)} {k : Int} (hv : Ed c ρ tv d ρ1) (hk : Ed c ρ1 ty (.int k) ρ2) (h0 : ∃ l o, ρ1[i]? = some (.mu l a o)) (ha : ρ2[i]? = some (.mu l a (.dK ks))) (hz : ks.length < 100000)
    (kk : Sk c T (ρ2.set i (.mu l a (.dK (putP ks (Sum.inl k) d)))) nx) : Ss c T ρ (sDPut (tVar i) ty tv) ⟨nx, rt, bk, ct⟩ := fun σ H W => hv T σ H W _ fun v H1 W1 => by
  obtain ⟨l0, o0, h0⟩ := h0
  refine ⟨.ref a, (W1.ok i _ h0).1, hk _ σ H1 W1 _ fun w H2 W2 => ?_⟩
  obtain ⟨_, _, xs, e3, e4⟩ := W2.ok i _ ha
  refine ⟨a, _, rfl, by rw [dp_int W2.dp]; exact DPut.k (k := Sum.inl k) e3 (by rw [kvd_len e4]; exact Nat.lt_of_lt_of_le hz (by decide)), ?_⟩
  have hm : a ∈ hid c ρ2 := List.mem_append_right _ (mem_muts.mpr ⟨i, l, _, ha⟩)
  exact kk _ _ (W2.pop.pop.updM ha ⟨_, upd_same, (kvd_put e4 W2.pop.dp).mono (upd_hid hm)⟩)
/-- x[k], of a dict that holds it -/
theorem ed_dget {i : Nat} {l : Bool} {a : Addr} {ks : List (Key × PyData)} {k : Int} (hk : Ed c ρ ty (.int k) ρ1) (h0 : ∃ l o, ρ[i]? = some (.mu l a o)) (ha : ρ1[i]? = some (.mu l a (.dK ks))) (e : valP ks (Sum.inl k) = some d) :
    Ed c ρ (tDGet (tVar i) ty) d ρ1 := fun T σ H W Q q => by
  obtain ⟨l0, o0, h0⟩ := h0
  refine ⟨.ref a, (W.ok i _ h0).1, hk _ σ H W _ fun w H1 W1 => ?_⟩
  obtain ⟨_, _, xs, e3, e4⟩ := W1.ok i _ ha
  obtain ⟨v, e5, e6⟩ := (kvd_val e4).1 d e
  exact ⟨a, v, rfl, by rw [dp_int W1.dp, ← e5]; exact DGet.k (k := Sum.inl k) e3, q v H1 (W1.pop.push e6)⟩
/-- x.get(k, e) -/
theorem ed_dget2 {i : Nat} {l : Bool} {a : Addr} {ks : List (Key × PyData)} {k : Int} (hk : Ed c ρ ty (.int k) ρ1) (hd : Ed c ρ1 te d1 ρ2) (h0 : ρ[i]? = some (.mu l a (.dK ks))) (ha : ρ2[i]? = some (.mu l a (.dK ks))) (e : (valP ks (Sum.inl k)).getD d1 = d) :
    Ed c ρ (tDGet2 (tVar i) ty te) d ρ2 := fun T σ H W Q q => by
  obtain ⟨_, _, ys, e1, _⟩ := W.ok i _ h0
  refine ⟨.ref a, (W.ok i _ h0).1, a, rfl, .inl ⟨ys, .inl e1⟩, hk _ σ H W _ fun w H1 W1 => hd _ σ H1 W1 _ fun z H2 W2 => ?_⟩
  obtain ⟨_, _, xs, e3, e4⟩ := W2.ok i _ ha
  have hw := dp_int W2.pop.dp
  refine ⟨valV xs (Sum.inl k), by rw [hw]; exact DGet.k (k := Sum.inl k) e3, ?_⟩
  obtain ⟨k1, k2⟩ := kvd_val (k := (Sum.inl k : Key)) e4
  cases hv : valP ks (Sum.inl k : Key) with
  | none =>
    rw [hv] at e
    rw [k2 hv]
    have e : d1 = d := e
    subst e
    exact q _ H2 (W2.pop.pop.push W2.dp)
  | some d' =>
    rw [hv] at e
    obtain ⟨v, e5, e6⟩ := k1 d' hv
    rw [e5]
    have e : d' = d := e
    subst e
    exact q _ H2 (W2.pop.pop.push e6)
/-- k in x, k not in x -/
theorem ed_din {i : Nat} {l : Bool} {a : Addr} {ks : List (Key × PyData)} {k : Int} (hk : Ed c ρ ty (.int k) ρ1) (ha : ρ1[i]? = some (.mu l a (.dK ks))) : Ed c ρ (tDIn ty (tVar i)) (.bool (valP ks (Sum.inl k)).isSome) ρ1 := fun T σ H W Q q => hk T σ H W _ fun w H1 W1 => by
  obtain ⟨h1, _, xs, e3, e4⟩ := W1.ok i _ ha
  obtain ⟨k1, k2⟩ := kvd_val (k := (Sum.inl k : Key)) e4
  refine ⟨_, h1, a, valV xs (Sum.inl k), rfl, by rw [dp_int W1.dp]; exact DGet.k (k := Sum.inl k) e3, ?_⟩
  have e : (valV xs (Sum.inl k : Key)).isSome = (valP ks (Sum.inl k : Key)).isSome := by
    cases hv : valP ks (Sum.inl k : Key) with
    | none => rw [k2 hv]; rfl
    | some d' => obtain ⟨v, e5, _⟩ := k1 d' hv; rw [e5]; rfl
  rw [e]
  exact q _ H1 (W1.pop.push (.bl _))
theorem ed_dnin {i : Nat} {l : Bool} {a : Addr} {ks : List (Key × PyData)} {k : Int} (hk : Ed c ρ ty (.int k) ρ1) (ha : ρ1[i]? = some (.mu l a (.dK ks))) : Ed c ρ (tDNotIn ty (tVar i)) (.bool (!(valP ks (Sum.inl k)).isSome)) ρ1 := fun T σ H W Q q => hk T σ H W _ fun w H1 W1 => by
  obtain ⟨h1, _, xs, e3, e4⟩ := W1.ok i _ ha
  obtain ⟨k1, k2⟩ := kvd_val (k := (Sum.inl k : Key)) e4
  refine ⟨_, h1, a, valV xs (Sum.inl k), rfl, by rw [dp_int W1.dp]; exact DGet.k (k := Sum.inl k) e3, ?_⟩
  have e : (valV xs (Sum.inl k : Key)).isSome = (valP ks (Sum.inl k : Key)).isSome := by
    cases hv : valP ks (Sum.inl k : Key) with
    | none => rw [k2 hv]; rfl
    | some d' => obtain ⟨v, e5, _⟩ := k1 d' hv; rw [e5]; rfl
  rw [e]
  exact q _ H1 (W1.pop.push (.bl _))
def rSortD (K : PySem.W.Frag) : List V → Hp → VK → Prop := fun xs H Q => ∃ (a : Addr) (kvs : List (Key × V)) (ks : List Int), xs = [.ref a] ∧ Rd H a (.dK kvs) ∧ kvs.map (·.1) = ks.map Sum.inl ∧ ks.length < 64 ∧
  ∀ (ys : List Int) (p : Addr), ys.Perm ks → ys.Pairwise (· ≤ ·) → H p = none → Q (.ref p) (upd H p (.lst (ys.map V.int)))
/-- sorted(x), of a dict with few keys -/
theorem el_sortD {i : Nat} {l : Bool} {a : Addr} {α : Type} {f : α → PyData} {kvs : List (Int × α)} (ha : ρ[i]? = some (.mu l a (.dK (eD f kvs)))) (hz : kvs.length < 64) : EdL c ρ (tCB (rSortD c.K) (tCons (tVar i) tNil)) ((sortI (kvs.map Prod.fst)).map .int) ρ := fun T σ H W Q q => by
  obtain ⟨h1, _, xs, e3, e4⟩ := W.ok i _ ha
  refine ⟨.ref a, h1, a, xs, kvs.map Prod.fst, rfl, .inl e3, ?_, by rw [List.length_map]; exact hz, fun ys p hp hs hn => ?_⟩
  · have := kvd_keys e4
    rw [show (fun x : Key × V => x.1) = Prod.fst from rfl, this, List.map_map, List.map_map]; rfl
  · obtain ⟨x1, x2, x3, x4⟩ := el_new W (dpa_ints ys) hn
    rw [sortI_un hp hs] at x3 x4 ⊢
    exact q p _ x1 x2 x3 x4
/-- sorted(x), of ints -/
theorem el_sortI {l : List Int} (h : Ed c ρ te (.list (l.map .int)) ρ1) : EdL c ρ (tCB (rSortedI c.K) (tCons te tNil)) ((sortI l).map .int) ρ1 := fun T σ H W Q q => h T σ H W _ fun v H1 W1 => by
  obtain ⟨a, xs, rfl, hs, h2⟩ := dp_lst W1.dp
  rw [dpaInts h2] at hs
  refine ⟨a, l, rfl, ex_l (hide_ex _ _) hs, fun ys p hp ha hn => ?_⟩
  obtain ⟨x1, x2, x3, x4⟩ := el_new W1.pop (dpa_ints ys) hn
  rw [sortI_un hp ha] at x3 x4 ⊢
  exact q p _ x1 x2 x3 x4
theorem sortU_core {w : World} {l : List Int} (hz : l.length < 64) {ρ1 : List Sl} {v : V} {H1 : Hp} (W1 : Wd c ((v, .list (l.map .int)) :: T) H1 σ ρ1) {Q : VK}
    (q : ∀ p H', c.B p = none → p ∉ hid c ρ1 → MoOk c.K (p :: hid c ρ1) H' p (.lst ((sortU l).map .int)) → Wd (c.hidden p) T H' σ ρ1 → Q (.ref p) H') : rSetLI c.K w [v] H1 fun x H2 => rSortedSet w [x] H2 Q := by
  obtain ⟨a, xs, rfl, hs, h2⟩ := dp_lst W1.dp
  rw [dpaInts h2] at hs
  refine ⟨a, l, rfl, ex_l (hide_ex _ _) hs, hz, fun p n hp hn => ?_⟩
  have W2 := W1.pop.grow (Ex.new (o := SetO w p (fun j => decide (j ∈ l)) n) hp)
  refine ⟨p, _, n, rfl, upd_same, by omega, fun ys r hy hk hl hr => ?_⟩
  obtain ⟨x1, x2, x3, x4⟩ := el_new W2 (dpa_ints ys) hr
  rw [sortU_un (l := l) hy (fun k => (hk k).trans (by simp))] at x3 x4 ⊢
  exact q r _ x1 x2 x3 x4
/-- sorted(set(x)), of ints -/
theorem el_sortU {w : World} {l : List Int} (h : Ed c ρ te (.list (l.map .int)) ρ1) (hz : l.length < 64) : EdL c ρ (tCB (rSortedSet w) (tCons (tCB (rSetLI c.K w) (tCons te tNil)) tNil)) ((sortU l).map .int) ρ1 := fun T σ H W Q q => h T σ H W _ fun v H1 W1 =>
  sortU_core hz W1 q
theorem ewl_sortU {w : World} {P : List Int → Prop} (h : Ew c ρ te (fun l : List Int => PyData.list (l.map PyData.int)) P ρ1) (hz : ∀ l, P l → l.length < 64) :
    EwL c ρ (tCB (rSortedSet w) (tCons (tCB (rSetLI c.K w) (tCons te tNil)) tNil)) (fun l : List Int => l.map PyData.int) (fun z => ∃ l, P l ∧ z = sortU l) ρ1 := fun T σ H W Q q => h T σ H W _ fun l v H1 hl W1 =>
  sortU_core (hz l hl) W1 fun p H' => q (sortU l) p H' ⟨l, hl, rfl⟩
end
end Nz

/-! (x, ..) * n; not of a list -/
namespace Nz
open PySem PySem.Spec PyProof.Rows L2 RZ
theorem tup_once (l : Addr) (items : Array Value) (n : Nat) (dd : Option Addr) (sl : Array (Option Value)) (u : Tok) :
    Meets (Builtin.«tuple.__mul__» ⟨[.ref l, .int 1 u], []⟩) (fun _ R s => s.heap.get? l = some { cls := .type "tuple", dict := dd, data := .seq items n, slots := sl } ∧ R (.ok (.ret (Value.ref l))) s) :=
  .of_wp fun prog w A R s h => by
    obtain ⟨hp, g, d, tk, os⟩ := s
    obtain ⟨hl, h⟩ := h
    have f1 := AutoSeq1.idx_int
    have c1 : (items.isEmpty || (1 : Int) == 1) = true := by rw [Bool.or_comm]; rfl
    wp_walk using wpAny_loadPart' hl
    exact ⟨_, rfl, h⟩
/-- t * k, k from 1 on -/
def rRepF (K : PySem.W.Frag) : R2 := fun x y H Q => ∃ a k xs, x = .ref a ∧ y = .int k ∧ SqT K H a xs ∧ xs ≠ [] ∧ 1 ≤ k ∧ k ≤ 1000 ∧ xs.length ≤ 1000 ∧
  (k = 1 → Q (.ref a) H) ∧ (k ≠ 1 → ∀ p o, o.dict = none → H p = none → Q (.ref p) (upd H p (.frz o (.tup (List.replicate k.toNat xs).flatten))))
section
variable {X : Cx}
theorem op_repF : OpR X (binaryOp .Mult) (rRepF X.K) := by
  intro pins s σ H x y v u Q I rx ry h
  obtain ⟨a, k, xs, rfl, rfl, isT, some_, lo, hi, few, q1, q2⟩ := h
  cases rx
  obtain ⟨tk, rfl⟩ := ry
  obtain ⟨vs, rv, ⟨⟨kcls, kd, kdata, ksl⟩, geta, cls_, cn, dat_⟩, big⟩ := I.tuple isT
  dsimp only at cls_ dat_
  subst cls_ dat_
  have len_ : vs.length = xs.length := rv.length.symm
  by_cases one_ : k = 1
  · subst one_
    refine wpAny_binaryOp_repeat_ref (T := "tuple") (U := "int") (by decide) ⟨_, geta, rfl⟩ (fun s' => typeIs_int s' 1 tk) noFill_tuple_mul F.fills_int_mul F.slot_int_rmul repeat_tuple F.slot_int_index.lookup
      (call_meets F.slot_int_rmul (typeIs_int s 1 tk) F.entry_int_rmul (F.args_int_rmul_2 _ _) (int_rmul_tuple 1 tk a vs.toArray cn kd ksl) ⟨geta, rfl, ⟨_, geta, rfl⟩, call_meets F.slot_tuple_mul ⟨_, geta, rfl⟩ F.entry_tuple_mul (F.args_tuple_mul_2 _ _) (tup_once a vs.toArray cn kd ksl tk) ⟨geta, ?_⟩⟩)
    exact ⟨.ref a, H, I, rfl, q1 rfl⟩
  · have nil_ : vs ≠ [] := fun e => some_ (List.eq_nil_of_length_eq_zero (by rw [← len_, e]; rfl))
    have em : vs.toArray.isEmpty = false := by cases vs with
      | nil => exact absurd rfl nil_
      | cons a b => rfl
    have szA : vs.toArray.size = xs.length := by rw [List.size_toArray, len_]
    have below : ((vs.toArray.size : Nat) : Int) * k ≤ 1000000 := by
      rw [szA]
      have := Int.mul_le_mul_of_nonneg_right (show ((xs.length : Nat) : Int) ≤ 1000 by omega) (show 0 ≤ k by omega)
      omega
    have below2 : k.toNat * xs.length ≤ 1000 * 1000 := Nat.mul_le_mul (by omega) few
    have out_ : (List.replicate k.toNat vs).flatten.length ≤ sizeLine := by rw [PyProof.Rows.lm_len_rep_flat, len_, sizeLine_eq]; omega
    refine wpAny_binaryOp_repeat_ref (T := "tuple") (U := "int") (by decide) ⟨_, geta, rfl⟩ (fun s' => typeIs_int s' k tk) noFill_tuple_mul F.fills_int_mul F.slot_int_rmul repeat_tuple F.slot_int_index.lookup
      (call_meets F.slot_int_rmul (typeIs_int s k tk) F.entry_int_rmul (F.args_int_rmul_2 _ _) (int_rmul_tuple k tk a vs.toArray cn kd ksl) ⟨geta, rfl, ⟨_, geta, rfl⟩, call_meets F.slot_tuple_mul ⟨_, geta, rfl⟩ F.entry_tuple_mul (F.args_tuple_mul_2 _ _)
        (tuple_mulW a vs.toArray cn kd ksl k tk (by simp; omega) (by rw [em, Bool.false_or]; exact beq_eq_false_iff_ne.mpr one_) (by rw [em, Bool.or_false]; exact decide_eq_false (by omega)) (by omega) (by unfold Builtin.Tuple.tupleTooMany; rw [sizeLine_eq]; exact decide_eq_false (by omega)) (by rw [size_rep, List.size_toArray]; exact out_)) ⟨geta, ?_⟩⟩)
    rw [size_rep]
    exact newTup I (by rw [PyProof.Rows.lm_len_rep_flat, sizeLine_eq]; omega) (rv.rep k.toNat) (q2 one_)
end
section
variable {c : Cz} {ρ ρ1 ρ2 ρ3 : List Sl} {ta tb te tx : TE} {d d1 d2 d3 : PyData} {T : Tm} {H H' : Hp} {σ : L2.St}
theorem ed_repT {α : Type} {f : α → PyData} {l : List α} {k : Int} (ha : Ed c ρ ta (.tuple (l.map f)) ρ1) (hb : Ed c ρ1 tb (.int k) ρ2) (hl : l ≠ [] ∧ l.length ≤ 1000) (hk : 1 ≤ k ∧ k ≤ 1000) : Ed c ρ (tOp (rRepF c.K) ta tb) (.tuple ((List.replicate k.toNat l).flatten.map f)) ρ2 :=
  ed_op ha hb fun T σ H x y W hx hy Q q => by
    obtain ⟨a, xs, rfl, hs, h2⟩ := dp_tup hx
    have hn := dpa_length h2
    rw [List.length_map] at hn
    have e : (List.replicate k.toNat l).flatten.map f = (List.replicate k.toNat (l.map f)).flatten := by rw [List.map_flatten, List.map_replicate]
    refine ⟨a, k, xs, rfl, dp_int hy, (ex_p (hide_ex _ _) hs).sq, fun z => hl.1 (List.eq_nil_of_length_eq_zero (by rw [← hn, z]; rfl)), hk.1, hk.2, by omega, fun h1 => ?_, fun _ p o z hp => ?_⟩
    · subst h1
      have e1 : (List.replicate (1 : Int).toNat l).flatten = l := by show ([l]).flatten = l; simp
      rw [e1] at q
      exact q _ H (W.push hx)
    · rw [e] at q
      exact q _ _ (tup_new W (dpa_rep h2 _) z hp)
theorem ed_notX {b : Bool} (h : Ed c ρ te d ρ1) (e : truD d = b) (ok : truOk d = true) : Ed c ρ (tNotT c.K te) (.bool (!b)) ρ1 := fun T σ H W Q q => h T σ H W _ fun v H1 W1 => by
  subst e
  exact ⟨_, tru_dp (dpm (hide_ex _ _) W1.dp) ok, q _ H1 (W1.pop.push (.bl _))⟩
theorem ed_notL {α : Type} {f : α → PyData} {l : List α} (h : Ed c ρ te (.list (l.map f)) ρ1) : Ed c ρ (tNotT c.K te) (.bool (!(!l.isEmpty))) ρ1 := ed_notX h (by show (!(l.map f).isEmpty) = _; cases l <;> rfl) rfl
theorem ed_notTu {α : Type} {f : α → PyData} {l : List α} (h : Ed c ρ te (.tuple (l.map f)) ρ1) : Ed c ρ (tNotT c.K te) (.bool (!(!l.isEmpty))) ρ1 := ed_notX h (by show (!(l.map f).isEmpty) = _; cases l <;> rfl) rfl
theorem s_par3W {α β γ : Type} {f : α → PyData} {g : β → PyData} {e : γ → PyData} {P : α → Prop} {P2 : β → Prop} {P3 : γ → Prop} {te1 te2 te3 : TE} {nx bk ct : L2.St → Hp → Prop} {rt : VK} {i j l : Nat} (h : Ew c ρ te1 f P ρ1) (h2 : Ew c ρ1 te2 g P2 ρ2) (h3 : Ew c ρ2 te3 e P3 ρ3)
    (k : ∀ x y z, P x → P2 y → P3 z → Sk c T (((ρ3.set i (.da (f x))).set j (.da (g y))).set l (.da (e z))) nx) : Ss c T ρ (tPar3 i j l (tCons te1 (tCons te2 (tCons te3 tNil)))) ⟨nx, rt, bk, ct⟩ := fun σ H W =>
  h T σ H W _ fun x u H1 px W1 => h2 _ σ H1 W1 _ fun y v H2 py W2 => h3 _ σ H2 W2 _ fun z w H3 pz W3 => by
    refine ⟨u, v, w, rfl, ?_⟩
    have W4 := W3.setD i W3.pop.pop.dp
    have W5 := W4.setD j W4.pop.dp
    have W6 := W5.setD l W5.dp
    exact k x y z px py pz _ _ W6.pop.pop.pop
end
end Nz

/-! sorted(a list of data) -/
namespace Nz
open PySem PySem.Spec PyProof.Rows L2 RZ PySem.W
section
variable {β : Type}
def rSortX (K : PySem.W.Frag) (enc : β → PyData) : List V → Hp → VK → Prop := fun vs H Q => ∃ (a : Addr) (xs : List V) (bs : List β) (R : V → β → Prop), vs = [.ref a] ∧ SqL K H a xs ∧ EachIs R xs bs ∧ (∀ v b, R v b → Dp K H v (enc b)) ∧
  AllAlike (bs.map enc) ∧ Sortable (bs.map enc) ∧ (∀ b ∈ bs, (enc b).depth ≤ 50) ∧ ∀ (ys : List V) (p : Addr), EachIs R ys (bs.mergeSort (dataLe false enc)) → H p = none → Q (.ref p) (upd H p (.lst ys))
theorem each_vals {X : Cx} {pins : List (Addr × Obj)} {σ : L2.St} {H : Hp} {s : Shared} (I : Inv X pins σ H s) {enc : β → PyData} {R : V → β → Prop} (hR : ∀ v b, R v b → Dp X.K H v (enc b)) :
    ∀ {xs : List V} {us : List Value} {bs : List β}, Vals xs us → EachIs R xs bs → EachIs (fun u b => ∃ x, RelV x u ∧ R x b) us bs ∧ EachIs (fun u b => ∃ as, Reads s.heap u (enc b) as) us bs
  | _, _, _, .nil, .nil => ⟨.nil, .nil⟩
  | _, _, _, .cons r rs, .cons h hs => by
    obtain ⟨i1, i2⟩ := each_vals I hR rs hs
    obtain ⟨as, rd⟩ := Dp.reads I _ _ _ (hR _ _ h) r
    exact ⟨.cons ⟨_, r, h⟩ i1, .cons ⟨as, rd⟩ i2⟩
theorem each_out {R : V → β → Prop} : ∀ {us : List Value} {bs : List β}, EachIs (fun u b => ∃ x, RelV x u ∧ R x b) us bs → ∃ ys : List V, Vals ys us ∧ EachIs R ys bs
  | _, _, .nil => ⟨[], .nil, .nil⟩
  | _, _, .cons ⟨x, r, h⟩ t => by
    obtain ⟨ys, a, b⟩ := each_out t
    exact ⟨x :: ys, .cons r a, .cons h b⟩
theorem cr_sortedX {X : Cx} {enc : β → PyData} (hu : X.A.units + 64 < cLine) : CallR X (.builtin "sorted") (rSortX X.K enc) := by
  intro pins s σ H vs us Q I r h
  obtain ⟨a, xs, bs, R, rfl, hs, he, hR, hal, hk, hd, q⟩ := h
  obtain ⟨its, rv, hl, hz⟩ := I.list hs
  rw [Vals.ref1 r]
  obtain ⟨e1, e2⟩ := each_vals I hR rv he
  have hlen := he.length
  refine sorted_data hl.isList e1 e2 hal hk (by rw [← hlen]; exact hz) (fun b hb => by have := hd b hb; omega) fun out hl2 ho => ?_
  obtain ⟨ys, r2, e3⟩ := each_out ho
  obtain ⟨ep, he'⟩ := PyProof.Rows.sortedAll_at s.heap its out.toArray
  exact ⟨.ref _, upd H (s.heap.objs.size + 1) (.lst ys), I.laid (t' := s.toks) (fun _ _ => PyProof.Rows.sortedAll_old) (Nat.le_succ _) ⟨by rw [r2.length, hl2, ← hlen]; exact hz, out, ep, r2, he'⟩, rfl, q ys _ e3 (I.hok.fresh (Nat.le_succ _))⟩
end
def sortX {β : Type} (enc : β → PyData) (l : List β) : List β := l.mergeSort (dataLe false enc)
section
variable {c : Cz} {ρ ρ1 ρ2 ρ3 : List Sl} {te : TE} {β : Type} {enc : β → PyData}
theorem each_dz {K : PySem.W.Frag} {H : Hp} : ∀ {xs : List V} {bs : List β}, DzAll K H xs (bs.map enc) → EachIs (fun v b => Dz K H v (enc b)) xs bs
  | _, [], h => by cases h; exact .nil
  | _, b :: bs, h => by
    cases h with
    | cons a t => exact .cons a (each_dz t)
theorem dz_each {K : PySem.W.Frag} {H : Hp} : ∀ {xs : List V} {bs : List β}, EachIs (fun v b => Dz K H v (enc b)) xs bs → DzAll K H xs (bs.map enc)
  | _, _, .nil => .nil
  | _, _, .cons h t => .cons h (dz_each t)
theorem el_sortX {l : List β} (h : Ed c ρ te (.list (l.map enc)) ρ1) (hal : AllAlike (l.map enc)) (hk : Sortable (l.map enc)) (hd : ∀ b ∈ l, (enc b).depth ≤ 50) : EdL c ρ (tCB (rSortX c.K enc) (tCons te tNil)) ((sortX enc l).map enc) ρ1 := fun T σ H W Q q => h T σ H W _ fun v H1 W1 => by
  obtain ⟨a, xs, rfl, hs, h2⟩ := dp_lst W1.dp
  refine ⟨a, xs, l, fun v b => Dz c.K (hide (hid c ρ1) H1) v (enc b), rfl, ex_l (hide_ex _ _) hs, each_dz h2, fun v b hv => dz_dp _ _ (dpm (hide_ex _ _) hv), hal, hk, hd, fun ys p he hp => ?_⟩
  obtain ⟨x1, x2, x3, x4⟩ := el_new W1.pop (dz_each he) hp
  exact q p _ x1 x2 x3 x4
end
theorem sortX_perm {β : Type} (enc : β → PyData) (l : List β) : (sortX enc l).Perm l := List.mergeSort_perm l _
/-- what is ascending already stays so -/
theorem sortX_id {β : Type} {enc : β → PyData} {l : List β} (h : l.Pairwise fun a b => dataLe false enc a b = true) : sortX enc l = l := List.mergeSort_of_pairwise h
end Nz

/-! a op b op c op d; extend, pop; list(range) -/
namespace Nz
open PySem PySem.Spec PyProof.Rows L2 RZ
def tChain3 (r r' r'' : R2) (ta tb tc td : TE) : TE := fun σ H Q => ta σ H fun x H1 => tb σ H1 fun y H2 => r x y H2 fun z H3 => ∃ k, z = .bl k ∧
  (if k = true then tc σ H3 fun y' H4 => r' y y' H4 fun z' H5 => ∃ k', z' = .bl k' ∧ (if k' = true then td σ H5 fun w' H6 => r'' y' w' H6 Q else Q (.bl false) H5) else Q (.bl false) H3)
section
variable {X : Cx} {a b c d : Expr} {ta tb tc td : TE} {pos : Pos}
theorem pe_chain3 {op op' op'' : CmpOp} {r r' r'' : R2} (ho : OpR X (compareOp op) r) (ho' : OpR X (compareOp op') r') (ho'' : OpR X (compareOp op'') r'') (ha : PE X a ta) (hb : PE X b tb) (hc : PE X c tc) (hd : PE X d td)
    (hm : lastMarks [op, op', op''] [b, c, d] = false := by with_unfolding_all rfl) : PE X (.Compare a [op, op', op''] [b, c, d] pos) (tChain3 r r' r'' ta tb tc td) := by
  refine ⟨fun pins s σ H Q I h => ?_⟩
  refine Compare_chain (thn (ha.run pins s σ H _ I h) fun v s1 ⟨x, H1, I1, r1, q1⟩ => chain_link (thn (hb.run pins s1 σ H1 _ I1 q1) fun u s2 ⟨y, H2, I2, r2, q2⟩ =>
    thn (ho pins s2 σ H2 x y v u _ I2 r1 r2 q2) fun e s3 ⟨z, H3, I3, r3, k, ek, q3⟩ => ?_)) hm
  subst ek; cases r3
  refine wpAny_truthy_bool ?_
  cases k with
  | false => exact ite_ff ⟨.bl false, H3, I3, rfl, q3⟩
  | true =>
    refine ite_tt (chain_link (thn (hc.run pins s3 σ H3 _ I3 q3) fun u' s4 ⟨y', H4, I4, r4, q4⟩ => thn (ho' pins s4 σ H4 y y' u u' _ I4 r2 r4 q4) fun e' s5 ⟨z', H5, I5, r5, k', ek', q5⟩ => ?_))
    subst ek'; cases r5
    refine wpAny_truthy_bool ?_
    cases k' with
    | false => exact ite_ff ⟨.bl false, H5, I5, rfl, q5⟩
    | true => exact ite_tt (chain_last (thn (hd.run pins s5 σ H5 _ I5 q5) fun w' s6 ⟨z', H6, I6, r6, q6⟩ => ho'' pins s6 σ H6 y' z' u' w' Q I6 r4 r6 q6))
theorem pt_chain3 {op op' op'' : CmpOp} {r r' r'' : R2} (ho : OpR X (compareOp op) r) (ho' : OpR X (compareOp op') r') (ho'' : OpR X (compareOp op'') r'') (ha : PE X a ta) (hb : PE X b tb) (hc : PE X c tc) (hd : PE X d td)
    (hm : lastMarks [op, op', op''] [b, c, d] = false := by with_unfolding_all rfl) : PT X (.Compare a [op, op', op''] [b, c, d] pos) (tTest (tChain3 r r' r'' ta tb tc td)) := by
  refine ⟨fun pins s σ H Q I h => ?_⟩
  refine isTrue_chain (thn (ha.run pins s σ H _ I h) fun v s1 ⟨x, H1, I1, r1, q1⟩ => test_link (thn (hb.run pins s1 σ H1 _ I1 q1) fun u s2 ⟨y, H2, I2, r2, q2⟩ =>
    thn (ho pins s2 σ H2 x y v u _ I2 r1 r2 q2) fun e s3 ⟨z, H3, I3, r3, k, ek, q3⟩ => ?_)) hm
  subst ek; cases r3
  refine wpAny_truthy_bool ?_
  cases k with
  | false =>
    obtain ⟨j, ej, q'⟩ := q3
    cases ej
    exact ite_ff ⟨H3, I3, q'⟩
  | true =>
    refine ite_tt (test_link (thn (hc.run pins s3 σ H3 _ I3 q3) fun u' s4 ⟨y', H4, I4, r4, q4⟩ => thn (ho' pins s4 σ H4 y y' u u' _ I4 r2 r4 q4) fun e' s5 ⟨z', H5, I5, r5, k', ek', q5⟩ => ?_))
    subst ek'; cases r5
    refine wpAny_truthy_bool ?_
    cases k' with
    | false =>
      obtain ⟨j, ej, q'⟩ := q5
      cases ej
      exact ite_ff ⟨H5, I5, q'⟩
    | true =>
      refine ite_tt (test_last (thn (hd.run pins s5 σ H5 _ I5 q5) fun w' s6 ⟨z', H6, I6, r6, q6⟩ => thn (ho'' pins s6 σ H6 y' z' u' w' _ I6 r4 r6 q6) fun d' s7 ⟨z2, H7, I7, r7, k2, e2, q7⟩ => ?_))
      subst e2; cases r7
      exact wpAny_truthy_bool ⟨H7, I7, q7⟩
end
section
variable {c : Cz} {ρ ρ1 ρ2 ρ3 ρ4 : List Sl} {ta tb tc td te : TE} {d d1 d2 d3 : PyData} {T : Tm} {H H' : Hp} {σ : L2.St}
variable {D : Ends} {nx bk ct : L2.St → Hp → Prop} {rt : VK}
theorem ed_chain3 {f g h : Int → Int → Bool} {i j k l : Int} (ha : Ed c ρ ta (.int i) ρ1) (hb : Ed c ρ1 tb (.int j) ρ2) (hc : Ed c ρ2 tc (.int k) ρ2) (hd : Ed c ρ2 td (.int l) ρ2) :
    Ed c ρ (tChain3 (rI0 fun i j => .bl (f i j)) (rI0 fun i j => .bl (g i j)) (rI0 fun i j => .bl (h i j)) ta tb tc td) (.bool (f i j && (g j k && h k l))) ρ2 := fun T σ H W Q q => ha T σ H W _ fun v H1 W1 => hb _ σ H1 W1 _ fun w H2 W2 =>
  ⟨i, j, dp_int W2.pop.dp, dp_int W2.dp, f i j, rfl, by
    cases e : f i j with
    | false =>
      rw [e, Bool.false_and] at q
      exact q _ H2 (W2.pop.pop.push (.bl _))
    | true =>
      rw [e, Bool.true_and] at q
      refine hc _ σ H2 W2 _ fun z H3 W3 => ⟨j, k, dp_int W3.pop.dp, dp_int W3.dp, g j k, rfl, ?_⟩
      cases e2 : g j k with
      | false =>
        rw [e2, Bool.false_and] at q
        exact q _ H3 (W3.pop.pop.pop.push (.bl _))
      | true =>
        rw [e2, Bool.true_and] at q
        exact hd _ σ H3 W3 _ fun z' H4 W4 => ⟨k, l, dp_int W4.pop.dp, dp_int W4.dp, q _ H4 (W4.pop.pop.pop.pop.push (.bl _))⟩⟩
/-- x.extend(a new list) -/
theorem s_extend {i : Nat} {l : Bool} {a : Addr} {ds es : List PyData} (h : EdL c ρ te es ρ1) (h0 : ∃ l ds, ρ[i]? = some (.mu l a (.lst ds))) (ha : ρ1[i]? = some (.mu l a (.lst ds))) (hz : ds.length + es.length ≤ 100000)
    (k : Sk c T (ρ1.set i (.mu l a (.lst (ds ++ es)))) nx) : Ss c T ρ (tDrop (tBM c.K "list" rExtend (tVar i) (tCons te tNil))) ⟨nx, rt, bk, ct⟩ := fun σ H W => by
  obtain ⟨l0, o0, h0⟩ := h0
  obtain ⟨e0, e2, e3⟩ := W.ok i _ h0
  obtain ⟨ys, e7, _⟩ := e3
  have ty : tyV c.K "list" (.ref a) H := .inl ⟨rfl, ys, sq_of e7⟩
  refine ⟨.ref a, e0, ty, h T σ H W _ fun p H1 hB hn hm W0 => ?_⟩
  have W1 := W0.unhide W.sub
  obtain ⟨zs, g1, g2⟩ := hm
  obtain ⟨_, _, xs, e4, e5⟩ := W1.ok i _ ha
  have hm : a ∈ hid c ρ1 := List.mem_append_right _ (mem_muts.mpr ⟨i, l, _, ha⟩)
  have e9 : Ex (hide (p :: hid c ρ1) H1) (hide (hid c ρ1) H1) := hide_mono fun b o n z => ⟨fun m => n (List.mem_cons_of_mem _ m), z⟩
  refine ⟨a, p, xs, zs, rfl, rfl, e4, g1, by rw [dpa_length e5, dpa_length g2]; exact Nat.le_trans hz (by decide), ?_⟩
  refine k _ _ (W1.updM ha ⟨xs ++ zs, upd_same, ?_⟩)
  have e6 : Ex (hide (hid c ρ1) H1) (hide (hid c ρ1) (upd H1 a (.lst (xs ++ zs)))) := upd_hid hm
  exact dpam e6 (dpa_append e5 (dpam e9 g2))
theorem dpa_erase {K : PySem.W.Frag} {H : Hp} : ∀ {ds : List PyData} {xs : List V} (n : Nat), DzAll K H xs ds → DzAll K H (xs.eraseIdx n) (ds.eraseIdx n)
  | [], _, _, h => by cases h; exact .nil
  | _ :: _, _, 0, h => by
    cases h with
    | cons a b => exact b
  | _ :: _, _, n + 1, h => by
    cases h with
    | cons a b => exact .cons a (dpa_erase n b)
theorem erase_map {α β : Type} (f : α → β) (l : List α) (n : Nat) : (l.eraseIdx n).map f = (l.map f).eraseIdx n := by
  rw [List.eraseIdx_eq_take_drop_succ, List.map_append, List.map_take, List.map_drop, ← List.eraseIdx_eq_take_drop_succ]
/-- x.pop(j) -/
theorem ed_popAt {i : Nat} {l : Bool} {a : Addr} {α : Type} {f : α → PyData} {xs : List α} {x : α} {j : Int} {n : Nat} (hj : Ed c ρ tb (.int j) ρ1) (h0 : ∃ l ds, ρ[i]? = some (.mu l a (.lst ds))) (ha : ρ1[i]? = some (.mu l a (.lst (xs.map f)))) (hn : j = (n : Int)) (hx : xs[n]? = some x) (hz : xs.length ≤ 100000) :
    Ed c ρ (tBM c.K "list" rPopAt (tVar i) (tCons tb tNil)) (f x) (ρ1.set i (.mu l a (.lst ((xs.eraseIdx n).map f)))) := fun T σ H W Q q => by
  obtain ⟨l0, o0, h0⟩ := h0
  obtain ⟨e0, e2, e3⟩ := W.ok i _ h0
  obtain ⟨ys, e7, _⟩ := e3
  have ty : tyV c.K "list" (.ref a) H := .inl ⟨rfl, ys, sq_of e7⟩
  refine ⟨.ref a, e0, ty, hj T σ H W _ fun v H1 W1 => ?_⟩
  obtain ⟨_, _, zs, e4, e5⟩ := W1.ok i _ ha
  have hx2 : (xs.map f)[n]? = some (f x) := by rw [List.getElem?_map, hx]; rfl
  obtain ⟨y, e6, e8⟩ := dpa_get e5 hx2
  have hlt := (List.getElem?_eq_some_iff.mp hx).1
  have hl := dpa_length e5
  rw [List.length_map] at hl
  subst hn
  refine ⟨a, zs, (n : Int), n, y, rfl, by rw [dp_int W1.dp], e4, by omega, by omega, ?_, e6, ?_⟩
  · unfold seqIndex?
    dsimp only
    rw [if_neg (show ¬ ((n : Int) < 0) by omega), if_pos (by simp; omega)]; rfl
  · have hm : a ∈ hid c ρ1 := List.mem_append_right _ (mem_muts.mpr ⟨i, l, _, ha⟩)
    have e9 : Ex (hide (hid c ρ1) H1) (hide (hid c ρ1) (upd H1 a (.lst (zs.eraseIdx n)))) := upd_hid hm
    have W2 := W1.pop.updM ha (o' := .lst ((xs.eraseIdx n).map f)) (u := .lst (zs.eraseIdx n)) ⟨_, upd_same, by rw [erase_map]; exact dpam e9 (dpa_erase n e5)⟩
    refine q y _ (W2.push ?_)
    refine dpm (hide_mono fun b o nb z => ⟨fun m => nb ?_, z⟩) (dpm e9 e8)
    rcases List.mem_append.mp m with m | m
    · exact List.mem_append_left _ m
    · obtain ⟨k, m', u, e⟩ := mem_muts.mp m
      rcases get_set e with ⟨_, _, e⟩ | ⟨_, e⟩
      · cases e; exact hm
      · exact List.mem_append_right _ (mem_muts.mpr ⟨k, m', u, e⟩)
end
section
variable {X : Cx}
def rRng1 : List V → Hp → VK → Prop := fun vs H Q => ∃ n, vs = [V.int n] ∧ ∀ p, H p = none → Q (.ref p) (upd H p (.rng 0 n))
def rRng2 : List V → Hp → VK → Prop := fun vs H Q => ∃ i j, vs = [V.int i, V.int j] ∧ ∀ p, H p = none → Q (.ref p) (upd H p (.rng i j))
theorem cr_rng1 : CallR X (.type "range") rRng1 := by
  intro pins s σ H vs us Q I r h
  obtain ⟨n, rfl, q⟩ := h
  obtain ⟨u, rfl, rn⟩ := vals1 r
  obtain ⟨t, rfl⟩ := rn
  exact call_range_1 ⟨.ref s.heap.objs.size, upd H s.heap.objs.size (.rng 0 n), I.laid (t' := s.toks + 1 + 1) (fun b o e => Heap.get?_push_of_some _ e) (Nat.le_refl _) ⟨s.toks, t, s.toks + 1, Heap.get?_push_size _ rfl⟩, rfl, q _ (I.hok.fresh (Nat.le_refl _))⟩
theorem cr_rng2 : CallR X (.type "range") rRng2 := cr_range2
def rListRng : List V → Hp → VK → Prop := fun xs H Q => ∃ a lo hi, xs = [.ref a] ∧ H a = some (.rng lo hi) ∧ -1000000 ≤ lo ∧ lo ≤ 1000000 ∧ -1000000 ≤ hi ∧ hi ≤ 1000000 ∧ ∀ p, H p = none → Q (.ref p) (upd H p (.lst ((rngX lo hi).map V.int)))
theorem cr_listRng (hc : X.calm = true) : CallR X (.type "list") rListRng := by
  intro pins s σ H xs us Q I r h
  obtain ⟨a, lo, hi, rfl, hr, b1, b2, b3, b4, q⟩ := h
  rw [Vals.ref1 r]
  obtain ⟨t, u, v, hget⟩ : ∃ t u v, s.heap.get? a = some { cls := .type "range", data := .fields #[.int lo t, .int hi u, .int 1 v] } := I.hok a _ hr
  have size_ : Builtin.Range.rangeSize lo hi 1 = ((hi - lo).toNat : Nat) := by
    unfold Builtin.Range.rangeSize
    rw [if_pos (by decide)]
    split <;> omega
  refine call_list_range (n := (hi - lo).toNat) (I.ok.hd hc) hget ?_ size_ (by omega) fun h' tk acc' c' keep hS hacc => ?_
  · unfold Builtin.Range.small
    have fit : ∀ x : Int, -2000000 ≤ x → x ≤ 2000000 → Builtin.Range.rangeFitsLong x = true := fun x h1 h2 => by
      unfold Builtin.Range.rangeFitsLong; simp; omega
    have z : Builtin.Range.rangeSize lo hi 1 ≤ 2000000 ∧ 0 ≤ Builtin.Range.rangeSize lo hi 1 := by rw [size_]; omega
    simp
    exact ⟨⟨⟨⟨fit _ (by omega) (by omega), fit _ (by omega) (by omega)⟩, fit _ (by decide) (by decide)⟩, fit _ (by omega) z.1⟩, .inr (fit _ (by omega) (by omega))⟩
  · obtain ⟨h1, h2⟩ := hacc
    have hv : ∀ (ns : List Int) (vs : List Value), vs.length = ns.length → (∀ (j : Nat) (v : Value), vs[j]? = some v → ∃ t k, ns[j]? = some k ∧ v = .int k t) → Vals (ns.map V.int) vs := by
      intro ns
      induction ns with
      | nil => intro vs hl _; cases vs with
        | nil => exact .nil
        | cons _ _ => simp at hl
      | cons n ns ih =>
        intro vs hl hj
        cases vs with
        | nil => simp at hl
        | cons w ws =>
          obtain ⟨t, k, e1, e2⟩ := hj 0 w rfl
          cases e1
          exact .cons ⟨t, e2⟩ (ih ws (by simpa using hl) fun j v e => by obtain ⟨t, k, a, b⟩ := hj (j + 1) v (by simpa using e); exact ⟨t, k, by simpa using a, b⟩)
    have ln : (rngX lo hi).length = (hi - lo).toNat := by unfold rngX; rw [List.length_map, List.length_range]
    have key : Vals ((rngX lo hi).map V.int) acc'.toList := hv _ _ (by rw [Array.length_toList, h1, ln]) fun j w e => by
      rw [Array.getElem?_toList] at e
      obtain ⟨t, et⟩ := h2 j w e
      have hj : j < (hi - lo).toNat := by rw [← h1]; exact (Array.getElem?_eq_some_iff.mp e).1
      refine ⟨t, lo + (j : Int), ?_, by rw [et, Int.mul_one]⟩
      unfold rngX
      rw [List.getElem?_map, List.getElem?_range hj]; rfl
    exact ⟨.ref _, upd H s.heap.objs.size (.lst ((rngX lo hi).map V.int)), I.laid (t' := tk) keep (Nat.le_refl _) (show ObjOk X.prog X.w _ h' _ (.lst _) from ⟨by rw [List.length_map, ln, sizeLine_eq]; omega, acc'.toList, c', key, hS⟩), rfl, q _ (I.hok.fresh (Nat.le_refl _))⟩
end
section
variable {c : Cz} {ρ ρ1 ρ2 : List Sl} {ta tb : TE}
/-- list(range(n)), list(range(lo, hi)) -/
theorem el_listRng1 {n : Int} (h : Ed c ρ ta (.int n) ρ1) (hn : -1000000 ≤ n ∧ n ≤ 1000000) : EdL c ρ (tCB rListRng (tCons (tCB rRng1 (tCons ta tNil)) tNil)) ((rngX 0 n).map .int) ρ1 := fun T σ H W Q q => h T σ H W _ fun v H1 W1 =>
  ⟨n, by rw [dp_int W1.dp], fun p hp => ⟨p, 0, n, rfl, upd_same, by omega, by omega, by omega, by omega, fun r hr => by
    obtain ⟨x1, x2, x3, x4⟩ := el_new (W1.pop.grow (Ex.new (o := .rng 0 n) hp)) (dpa_ints (rngX 0 n)) hr
    exact q r _ x1 x2 x3 x4⟩⟩
theorem el_listRng2 {lo n : Int} (h : Ed c ρ ta (.int lo) ρ1) (h2 : Ed c ρ1 tb (.int n) ρ2) (hl : -1000000 ≤ lo ∧ lo ≤ 1000000) (hn : -1000000 ≤ n ∧ n ≤ 1000000) : EdL c ρ (tCB rListRng (tCons (tCB rRng2 (tCons ta (tCons tb tNil))) tNil)) ((rngX lo n).map .int) ρ2 := fun T σ H W Q q => h T σ H W _ fun v H1 W1 => h2 _ σ H1 W1 _ fun w H2 W2 =>
  ⟨lo, n, by rw [dp_int W2.pop.dp, dp_int W2.dp], fun p hp => ⟨p, lo, n, rfl, upd_same, by omega, by omega, by omega, by omega, fun r hr => by
    obtain ⟨x1, x2, x3, x4⟩ := el_new (W2.pop.pop.grow (Ex.new (o := .rng lo n) hp)) (dpa_ints (rngX lo n)) hr
    exact q r _ x1 x2 x3 x4⟩⟩
end
section
variable {c : Cz} {ρ ρ1 ρ2 : List Sl} {ta tb te : TE}
/-- [e for x in xs if a test that draws] -/
theorem el_lcF {γ δ : Type} {wi : TI} {g : TG} {tt : TT} {vs : List Nat} {xs : List γ} {ea : γ → Itm} {eb : δ → PyData} {fb : γ → δ} {bp : γ → Bool → Prop} (h : Ei c ρ wi (xs.map ea) ρ1) (hsz : xs.length ≤ 100000) (hvs : ∀ j ∈ vs, ρ1[j]? = some .no)
    (turn : ∀ (S : List Addr) (B : Hp) (x : γ), x ∈ xs → ∃ ρa, Nz.wipeS ρa vs = ρ1 ∧ Eg (c.at S B) g (ea x) ρ1 ρa vs ∧ Ewt (c.at S B) ρa tt (bp x) ρa ∧ Ed (c.at S B) ρa te (eb (fb x)) ρa) :
    EwL c ρ (tLc wi g tt te vs) (fun l : List δ => l.map eb) (fun l => l.Sublist (xs.map fb)) ρ1 := fun T σ H W Q q => by
  refine el_lcN (c := c) (tt := tt) (te := te) (vs := vs) (its := fun _ : Unit => xs.map ea) (eiw_det (x := ()) (its := fun _ => xs.map ea) h) (fun _ i acc => ∃ l : List δ, acc = l.map eb ∧ l.Sublist ((xs.take i).map fb)) (fun _ _ => ⟨[], rfl, by rw [List.take_zero]; exact .slnil⟩) (fun _ _ => by rw [List.length_map]; exact hsz) hvs
    (fun S B _ i d acc _ hd ⟨l, hl, hf⟩ => ?_) T σ H W Q (fun l p H' ⟨_, _, l', e, hf⟩ h1 h2 h3 W1 => ?_)
  · rw [List.getElem?_map] at hd
    cases hx : xs[i]? with
    | none => rw [hx] at hd; cases hd
    | some x =>
      rw [hx] at hd
      have hd : ea x = d := Option.some.inj hd
      subst hd
      obtain ⟨ρa, hw, g1, g2, g3⟩ := turn S B x (List.mem_of_getElem? hx)
      have e : (xs.take (i + 1)).map fb = (xs.take i).map fb ++ [fb x] := by rw [List.take_add_one, hx, List.map_append]; rfl
      refine ⟨ρa, bp x, hw, g1, g2, fun _ => ew_as (f := eb) (ew_det (f := eb) (x := fb x) g3) fun y hy => ⟨eb (fb x), ⟨l ++ [fb x], by rw [hl, List.map_append]; rfl, ?_⟩, by rw [hy]⟩, fun _ => ⟨l, hl, ?_⟩⟩
      · rw [e]; exact hf.append (List.Sublist.refl _)
      · rw [e]; exact hf.trans (List.sublist_append_left _ _)
  · subst e
    rw [List.length_map, List.take_length] at hf
    exact q l' p H' hf h1 h2 h3 W1
/-! what may be None -/
theorem isN_eO {α : Type} {f : α → PyData} (hf : ∀ a, isNone (f a) = false) (x : Option α) : isNone (eO f x) = x.isNone := by
  cases x with
  | none => rfl
  | some a => exact hf a
theorem eO_get {α : Type} [Inhabited α] {f : α → PyData} {x : Option α} (h : x.isSome = true) : eO f x = f (x.getD default) := by
  cases x with
  | none => cases h
  | some a => rfl
theorem some_a {α : Type} {x : Option α} (h : (!x.isNone) = true) : x.isSome = true := by cases x <;> simp_all
theorem some_b {α : Type} {x : Option α} (h : x.isNone = false) : x.isSome = true := by cases x <;> simp_all
end

/-! ### an open pair as the target of a comprehension -/
theorem pg_tupB {X : Cx} {K : PySem.W.Frag} {es : List Expr} {k : Nat} {t : TGs} {n : Nat} {pos : Pos} (hK : X.K = K) (hc : X.calm = true) (h : PGs X es t)
    (hn : (assignEach es X.env).length = n := by rfl) (hst : (assignEach es X.env).findIdx? (·.1) = none := by rfl) : PG X (.Tuple es k pos) (gTup K n t) := by
  subst hK
  exact pg_tup hc h hn hst

/-! ### for at, x in enumerate(l), where l may change (but not in this for) -/
section
variable {c : Cz} {ρ ρ1 : List Sl} {T : Tm} {g : TG} {nx : L2.St → Hp → Prop} {rt : V → Hp → Prop} {bk ct : L2.St → Hp → Prop}
theorem s_forEM {α : Type} {f : α → PyData} {j : Nat} {l : Bool} {a : Addr} {tbd : TS} (xs : List α) (ha : ρ[j]? = some (.mu l a (.lst (xs.map f)))) (I : Nat → List Sl) (h0 : Le ρ (I 0)) (hI : ∀ i, (I i)[j]? = some (.mu l a (.lst (xs.map f))))
    (hs : ∀ (T' : Tm), (∀ p ∈ T, p ∈ T') → ∀ (i : Nat) (x : α × Nat), xs.zipIdx[i]? = some x → ∃ ρa ws, Eg c g (Itm.soft [PyData.int (x.2 : Int), f x.1]) (I i) ρa ws ∧ Ss c T' ρa tbd ⟨fun σ H => Wd c T' H σ (I (i + 1)), rt, nx, fun σ H => Wd c T' H σ (I (i + 1))⟩)
    (hd : Sk c T (I xs.zipIdx.length) nx) : Ss c T ρ (tFor (iEnum c.K (tCons (tVar j) tNil)) g tbd) ⟨nx, rt, bk, ct⟩ := fun σ H W => by
  obtain ⟨e0, _, ys, e1, e2⟩ := W.ok j _ ha
  refine ⟨.ref a, e0, a, ys, rfl, sq_of e1, fun i m σ' H' => i + m = xs.zipIdx.length ∧ Wd c T H' σ' (I i), ⟨xs.zipIdx.length, by omega, W.le h0⟩, fun i m σ' H' ⟨hm, W2⟩ => ?_⟩
  obtain ⟨_, _, zs, h1, h2⟩ := W2.ok j _ (hI i)
  have hl := dpa_length h2
  rw [List.length_map] at hl
  have hs2 : SqL c.K H' a zs := sq_of h1
  rw [List.length_zipIdx] at hm
  by_cases hi : i < xs.length
  · obtain ⟨x, hx, dx⟩ := dpa_get h2 (d := f xs[i]) (i := i) (by rw [List.getElem?_map, List.getElem?_eq_getElem hi]; rfl)
    refine .inr ⟨⟨zs, x, hs2, hx⟩, fun σ3 H3 => Wd c T H3 σ3 (I (i + 1)), fun σ3 H3 h3 => ⟨m - 1, by omega, by rw [List.length_zipIdx]; omega, h3⟩, fun y H3 hy => ?_⟩
    obtain ⟨p, z, rfl, hp, rfl, hy⟩ := hy
    have ez := (hy zs hs2).symm.trans hx
    rw [Option.some.inj ez]
    have W3 := W2.grow (Ex.new (o := .tup [.int (i : Nat), x]) hp)
    have e3 : Ex (hide (hid c (I i)) H') (hide (hid c (I i)) (upd H' p (.tup [.int (i : Nat), x]))) := hide_mono fun a o n h => ⟨n, Ex.new hp a o h⟩
    have hz : xs.zipIdx[i]? = some (xs[i], i) := by rw [List.getElem?_zipIdx, List.getElem?_eq_getElem hi]; simp
    obtain ⟨ρa, ws, g1, g2⟩ := hs T (fun p hp => hp) i _ hz
    exact g1 _ σ' _ _ ⟨p, [.int (i : Nat), x], rfl, .inl (.inl upd_same), rfl, (W3.push (dpm e3 dx)).push (.int _)⟩ _ fun σ4 H4 W4 _ => g2 σ4 H4 W4
  · have ei : i = xs.length := by omega
    subst ei
    refine .inl ⟨⟨zs, hs2, by omega⟩, hd σ' H' ?_⟩
    rw [List.length_zipIdx]; exact W2
end

/-! ### a walk over range(what is drawn); append of what is drawn -/
section
variable {c : Cz} {ρ ρ1 : List Sl} {T : Tm} {gt : TG} {te : TE} {nx : L2.St → Hp → Prop} {rt : V → Hp → Prop} {bk ct : L2.St → Hp → Prop} {α : Type}
theorem s_forNw {β γ : Type} {wi : TI} {tbd : TS} {Pa : γ → Prop} (xs : γ → List α) (ea : α → Itm) (h : Eiw c ρ wi (fun a => (xs a).map ea) Pa ρ1) (P : Nat → β → Prop) (I : Nat → β → List Sl) (b0 : β) (hP : P 0 b0) (h0 : Le ρ1 (I 0 b0))
    (hs : ∀ a, Pa a → ∀ (T' : Tm), (∀ p ∈ T, p ∈ T') → ∀ (i : Nat) (x : α) (b : β), (xs a)[i]? = some x → P i b → ∃ ρa ws, Eg c gt (ea x) (I i b) ρa ws ∧ Ss c T' ρa tbd ⟨fun σ H => ∃ b', P (i + 1) b' ∧ Wd c T' H σ (I (i + 1) b'), rt, nx, fun σ H => ∃ b', P (i + 1) b' ∧ Wd c T' H σ (I (i + 1) b')⟩)
    (hd : ∀ a, Pa a → ∀ b, P (xs a).length b → Sk c T (I (xs a).length b) nx) : Ss c T ρ (tFor wi gt tbd) ⟨nx, rt, bk, ct⟩ := fun σ H W => h T σ H W _ fun a J H1 T1 pa W1 hw => by
  have hs := hs a pa
  have hd := hd a pa
  dsimp only at hw
  generalize hxs : xs a = ys at hs hd hw
  rw [← List.length_map (f := ea)] at hd
  refine ⟨fun i m σ' H' => i + m = (ys.map ea).length ∧ ∃ b, P i b ∧ Wd c (T1 ++ T) H' σ' (I i b), ⟨(ys.map ea).length, by omega, b0, hP, W1.le h0⟩, fun i m σ' H' ⟨hm, b, pb, W2⟩ => ?_⟩
  have hwk := hw c T σ' H' (I i b) rfl W2
  by_cases hi : i < (ys.map ea).length
  · refine .inr ⟨(hwk.1 i hi).1, fun σ3 H3 => ∃ b', P (i + 1) b' ∧ Wd c (T1 ++ T) H3 σ3 (I (i + 1) b'), fun σ3 H3 h3 => ⟨m - 1, by omega, by omega, h3⟩, fun x H3 hy => ?_⟩
    obtain ⟨d, hd', W3⟩ := (hwk.1 i hi).2 x H3 hy
    rw [List.getElem?_map] at hd'
    cases hx : ys[i]? with
    | none => rw [hx] at hd'; cases hd'
    | some z =>
      rw [hx] at hd'
      have hd' : ea z = d := Option.some.inj hd'
      subst hd'
      obtain ⟨ρa, ws, g1, g2⟩ := hs (T1 ++ T) (fun p hp => List.mem_append_right _ hp) i z b hx pb
      exact g1 _ σ' H3 x W3 _ fun σ4 H4 W4 _ => g2 σ4 H4 W4
  · have ei : i = (ys.map ea).length := by omega
    subst ei
    exact .inl ⟨hwk.2 _ (Nat.le_refl _), hd b pb σ' H' (W2.tmps fun p hp => List.mem_append_right _ hp)⟩
theorem s_appendW {i : Nat} {l : Bool} {a : Addr} {ds : List PyData} {f : α → PyData} {P : α → Prop} (h : Ew c ρ te f P ρ1) (h0 : ∃ l ds, ρ[i]? = some (.mu l a (.lst ds))) (ha : ρ1[i]? = some (.mu l a (.lst ds))) (hz : ds.length < 100000) (k : ∀ x, P x → Sk c T (ρ1.set i (.mu l a (.lst (ds ++ [f x])))) nx) :
    Ss c T ρ (tDrop (tBM c.K "list" rAppend (tVar i) (tCons te tNil))) ⟨nx, rt, bk, ct⟩ := fun σ H W => by
  obtain ⟨l0, o0, h0⟩ := h0
  obtain ⟨e0, e2, e3⟩ := W.ok i _ h0
  obtain ⟨ys, e7, _⟩ := e3
  have ty : tyV c.K "list" (.ref a) H := .inl ⟨rfl, ys, sq_of e7⟩
  refine ⟨.ref a, e0, ty, h T σ H W _ fun x v H1 px W1 => ?_⟩
  obtain ⟨_, _, xs, e4, e5⟩ := W1.ok i _ ha
  refine ⟨a, xs, v, rfl, rfl, e4, by rw [dpa_length e5]; exact Nat.lt_of_lt_of_le hz (by decide), ?_⟩
  refine k x px _ _ (W1.pop.updM ha ⟨xs ++ [v], upd_same, ?_⟩)
  have hm : a ∈ hid c ρ1 := List.mem_append_right _ (mem_muts.mpr ⟨i, l, _, ha⟩)
  have e6 : Ex (hide (hid c ρ1) H1) (hide (hid c ρ1) (upd H1 a (.lst (xs ++ [v])))) := hide_mono fun b o nb e => ⟨nb, by rw [upd_ne (fun q => nb (by rw [q]; exact hm))]; exact e⟩
  exact dpam e6 (dpa_append e5 (.cons W1.dp .nil))
end

/-! an if whose branches go on together -/
section
variable {c : Cz} {ρ ρ1 : List Sl} {T : Tm} {t : TT} {ts tu : TS} {D : Ends} {b : Bool}
theorem s_ifJ (ρJ : List Sl) {nx : L2.St → Hp → Prop} {rt : VK} {bk ct : L2.St → Hp → Prop} (h : Et c ρ t b ρ1) (h1 : Sk c T ρJ nx → b = true → Ss c T ρ1 ts ⟨nx, rt, bk, ct⟩) (h2 : Sk c T ρJ nx → b = false → Ss c T ρ1 tu ⟨nx, rt, bk, ct⟩) (k : Sk c T ρJ nx) : Ss c T ρ (tIfS t ts tu) ⟨nx, rt, bk, ct⟩ :=
  s_if h (h1 k) (h2 k)
end
end Nz

/-! a and b, where both draw -/
namespace Nz
open PySem PySem.Spec PyProof.Rows L2 RZ
section
variable {c : Cz} {ρ ρ1 : List Sl} {ta tb : TE}
theorem ew_andV {A B : Bool → Prop} (h1 : Ew c ρ ta PyData.bool A ρ1) (h2 : A true → Ew c ρ1 tb PyData.bool B ρ1) : Ew c ρ (tAndV ta tb) PyData.bool (fun b => (A false ∧ b = false) ∨ (A true ∧ B b)) ρ1 := fun T σ H W Q q => h1 T σ H W _ fun a v H1 pa W1 => ⟨a, dp_bl W1.dp, by
  cases a with
  | true => exact h2 pa T σ H1 W1.pop Q fun b v2 H2 pb W2 => q b v2 H2 (.inr ⟨pa, pb⟩) W2
  | false => exact q false _ H1 (.inl ⟨pa, rfl⟩) (W1.pop.push (.bl _))⟩
end
end Nz

set_option exponentiation.threshold 10000
/-! what several laws need: places, binomials, sizes, quotients -/
namespace Nz
open PySem PySem.Spec PyProof.Rows L2 RZ
theorem rng_get {n i x : Nat} (h : (List.range n)[i]? = some x) : x = i ∧ i < n := by
  have hi := (List.getElem?_eq_some_iff.mp h).1
  rw [List.length_range] at hi
  rw [List.getElem?_range hi] at h
  cases h
  exact ⟨rfl, hi⟩
theorem all_id {α : Type} {l : List α} {f : α → Bool} (h : ∀ x ∈ l, f x = true) : (l.map f).all id = true := by
  rw [List.all_map, List.all_eq_true]
  exact h
theorem inb {n : Nat} {i : Int} (h : 0 ≤ i ∧ i < n) : InB n i := ⟨by omega, h.2⟩
theorem small_lt {a : Int} (h : -(2 ^ 64) < a ∧ a < 2 ^ 64) : a.natAbs < 2 ^ 8999 := Nat.lt_of_lt_of_le (show a.natAbs < 2 ^ 64 by omega) (Nat.pow_le_pow_right (by decide) (by decide))
theorem divI (a b : Int) : Rat.divInt a b = (a : Rat) / (b : Rat) := Rat.divInt_eq_div a b
theorem less_q {a b c d : Rat} (hb : 0 < b) (hd : 0 < d) : (a * d < c * b) ↔ (a / b < c / d) := by
  have e : c / d * b = (c * b) / d := by grind
  rw [Rat.div_lt_iff hb, e, Rat.lt_div_iff hd]
theorem less_i {a b c d : Int} (hb : 0 < b) (hd : 0 < d) : (a * d < c * b) ↔ (qv (a, b) < qv (c, d)) := by
  unfold qv
  rw [divI, divI]
  show _ ↔ (a : Rat) / (b : Rat) < (c : Rat) / (d : Rat)
  rw [← less_q (Rat.intCast_lt_intCast.mpr hb) (Rat.intCast_lt_intCast.mpr hd), ← Rat.intCast_mul, ← Rat.intCast_mul, Rat.intCast_lt_intCast]
theorem less_iff {a b c d : Int} (hb : 0 < b) (hd : 0 < d) : decide (a * d < c * b) = decide (qv (a, b) < qv (c, d)) := by
  have e := less_i (a := a) (c := c) hb hd
  by_cases h : a * d < c * b
  · rw [decide_eq_true h, decide_eq_true (e.mp h)]
  · rw [decide_eq_false h, decide_eq_false fun z => h (e.mpr z)]
theorem pow_succ' (r : Rat) (n : Nat) : r ^ (n + 1) = r ^ n * r := Rat.pow_succ ..
theorem Qk_pow {k : Nat} {r : Rat} (h : Qk k r) : ∀ n, Qk (k * n) (r ^ n)
  | 0 => by rw [Rat.pow_zero]; exact Qk_one _
  | n + 1 => by rw [pow_succ', Nat.mul_succ]; exact Qk_mul (Qk_pow h n) h
theorem Q_gcd (r : Rat) : Nat.gcd r.num.natAbs r.den = 1 := r.reduced
theorem den_pos (r : Rat) : 0 < (qp r).2 := by have := r.den_pos; show (0 : Int) < (r.den : Int); omega
theorem Qk_add {j k : Nat} {r q : Rat} (h1 : Qk j r) (h2 : Qk k q) : Qk (j + k + 1) (r + q) := by
  rw [← q_add]
  have := r.den_nz
  have := q.den_nz
  have a1 : (r.num * (q.den : Int)).natAbs ≤ 2 ^ (j + k) := by rw [Int.natAbs_mul, Nat.pow_add]; exact Nat.mul_le_mul h1.1 h2.2
  have a2 : (q.num * (r.den : Int)).natAbs ≤ 2 ^ (j + k) := by rw [Int.natAbs_mul, Nat.pow_add, Nat.mul_comm]; exact Nat.mul_le_mul h1.2 h2.1
  refine Qk_divInt (Int.mul_pos (by omega) (by omega)) ?_ ?_
  · refine Nat.le_trans (Int.natAbs_add_le _ _) ?_
    rw [Nat.pow_succ]; omega
  · rw [Int.natAbs_mul, Nat.pow_succ, Nat.pow_add]
    have : (r.den : Int).natAbs * (q.den : Int).natAbs ≤ 2 ^ j * 2 ^ k := Nat.mul_le_mul h1.2 h2.2
    omega
theorem Qk_neg {k : Nat} {r : Rat} (h : Qk k r) : Qk k (-r) := ⟨by rw [Rat.neg_num, Int.natAbs_neg]; exact h.1, by rw [Rat.neg_den]; exact h.2⟩
theorem Qk_sub {j k : Nat} {r q : Rat} (h1 : Qk j r) (h2 : Qk k q) : Qk (j + k + 1) (r - q) := by
  rw [Rat.sub_eq_add_neg]; exact Qk_add h1 (Qk_neg h2)
theorem en_get {α : Type} {l : List α} {i : Nat} {p : α × Nat} (h : l.zipIdx[i]? = some p) : p.2 = i ∧ l[i]? = some p.1 ∧ i < l.length := by
  rw [List.getElem?_zipIdx] at h
  cases e : l[i]? with
  | none => rw [e] at h; cases h
  | some a =>
    rw [e] at h
    cases h
    exact ⟨by simp, rfl, (List.getElem?_eq_some_iff.mp e).1⟩
theorem num_pos1 {r : Rat} (h : 0 < r) : 0 < r.num := Rat.intCast_pos.mp h
theorem num_pos2 {r : Rat} (h : 0 < r.num) : 0 < r := by
  rcases (show 0 < r ∨ 0 = r ∨ r < 0 by grind) with q | q | q
  · exact q
  · rw [← q] at h; exact absurd h (by decide)
  · have z : 0 < -r := by grind
    have := num_pos1 z
    rw [Rat.neg_num] at this
    omega
theorem pos_ne {r : Rat} (h : 0 < r) : r ≠ 0 := fun e => by rw [e] at h; exact absurd h (by decide +kernel)
theorem Qk_div {j k : Nat} {r q : Rat} (h1 : Qk j r) (h2 : Qk k q) (h : 0 < q) : Qk (j + k) (r / q) := by
  rw [← q_div]
  have hn := num_pos1 h
  have := r.den_nz
  refine Qk_divInt (Int.mul_pos (by omega) hn) ?_ ?_
  · rw [Int.natAbs_mul, Nat.pow_add]; exact Nat.mul_le_mul h1.1 h2.2
  · rw [Int.natAbs_mul, Nat.pow_add]; exact Nat.mul_le_mul h1.2 h2.1
theorem rngDn_get {a b x : Int} {i : Nat} (h : (rngDn a b)[i]? = some x) : x = a - (i : Int) ∧ (i : Int) < a - b := by
  unfold rngDn at h
  rw [List.getElem?_map] at h
  cases e : (List.range (a - b).toNat)[i]? with
  | none => rw [e] at h; cases h
  | some j =>
    rw [e] at h
    cases h
    have := rng_get e
    exact ⟨by rw [this.1], by omega⟩
theorem ixG_snoc {α : Type} [Inhabited α] (l : List α) (x : α) : ixG (l ++ [x]) (-(1 : Int)) = x := ixG_last l x
theorem qv_1 (k : Int) : qv (k, 1) = (k : Rat) := by unfold qv; rw [divI]; show (k : Rat) / ((1 : Int) : Rat) = _; grind
theorem ixG_mem {α : Type} [Inhabited α] {l : List α} {i : Int} (h : 0 ≤ i ∧ i < l.length) : ixG l i ∈ l := by
  have e : l[i.toNat]? = some (l[i.toNat]'(by omega)) := List.getElem?_eq_getElem (by omega)
  have := ixG_nat e
  rw [show ((i.toNat : Nat) : Int) = i by omega] at this
  rw [this]; exact List.getElem_mem _
theorem ixG_neg {α : Type} [Inhabited α] {l : List α} (h : 0 < l.length) : ixG l (-1) = ixG l ((l.length : Int) - 1) := by
  have e : l[l.length - 1]? = some (l[l.length - 1]'(by omega)) := List.getElem?_eq_getElem (by omega)
  have h1 := ixG_nat e
  rw [show ((l.length - 1 : Nat) : Int) = (l.length : Int) - 1 by omega] at h1
  rw [h1]
  unfold ixG atI ixN
  rw [if_neg (by decide), if_pos (by omega)]
  show (l[((-1 : Int) + l.length).toNat]?).getD _ = _
  rw [show ((-1 : Int) + (l.length : Int)).toNat = l.length - 1 by omega, e]; rfl
theorem Bd_self {k : Nat} {r : Rat} (h : Qk k r) : Bd (2 ^ k) r.den r := ⟨r.den_pos, r.num, h.1, (Rat.num_divInt_den r).symm⟩
theorem Bd_neg {M D : Nat} {r : Rat} (h : Bd M D r) : Bd M D (-r) := by
  obtain ⟨h0, n, hn, e⟩ := h
  exact ⟨h0, -n, by rw [Int.natAbs_neg]; exact hn, by rw [e, Rat.neg_divInt]⟩
theorem Bd_one {D : Nat} (h : 0 < D) : Bd D D 1 := by
  refine ⟨h, (D : Int), Nat.le_of_eq (Int.natAbs_natCast D), ?_⟩
  have z : ((D : Int) : Rat) ≠ 0 := by exact_mod_cast (by omega : D ≠ 0)
  rw [Rat.divInt_eq_div]
  grind
theorem Bd_pow {M D : Nat} {r : Rat} (h : Bd M D r) : ∀ n : Nat, Bd (M ^ n) (D ^ n) (r ^ n)
  | 0 => by rw [Rat.pow_zero, Nat.pow_zero, Nat.pow_zero]; exact Bd_one (by decide)
  | n + 1 => by rw [pow_succ', Nat.pow_succ, Nat.pow_succ]; exact Bd_mul (Bd_pow h n) h
theorem Bd_int {M : Nat} {x : Int} (h : x.natAbs ≤ M) : Bd M 1 (x : Rat) := ⟨by decide, x, h, by rw [Rat.divInt_eq_div]; grind⟩
theorem int_qk {k : Nat} {x : Int} (h : x.natAbs ≤ 2 ^ k) : Qk k (x : Rat) := ⟨by simpa using h, by simpa using Nat.one_le_two_pow⟩
theorem co_cop (r : Rat) : Nat.gcd ((r.den : Int) - r.num).natAbs r.den = 1 := by
  have h := r.reduced
  have e : Int.gcd ((r.den : Int) - r.num) (r.den : Int) = Int.gcd r.num (r.den : Int) := by simp
  exact e.trans h
theorem co_rat (r : Rat) : (⟨(r.den : Int) - r.num, r.den, r.den_nz, co_cop r⟩ : Rat) = 1 - r := by
  rw [Rat.mk_eq_divInt, Rat.divInt_eq_div]
  have z : (((r.den : Int)) : Rat) ≠ 0 := by exact_mod_cast r.den_nz
  have q : r = ((r.num : Int) : Rat) / (((r.den : Int)) : Rat) := by rw [← Rat.divInt_eq_div, Rat.num_divInt_den]
  have c : ((((r.den : Int) - r.num : Int)) : Rat) = (((r.den : Int)) : Rat) - ((r.num : Int) : Rat) := by push_cast; rfl
  rw [c]
  generalize (((r.den : Int)) : Rat) = D at *
  generalize ((r.num : Int) : Rat) = N at *
  rw [q]; clear q c
  grind
theorem co_pair (r : Rat) : [PyData.int ((r.den : Int) - r.num), PyData.int r.den] = [PyData.int (1 - r).num, PyData.int (1 - r).den] := by
  rw [← co_rat]
theorem inv_pair {r : Rat} (h : 0 < r) : [PyData.int r.den, PyData.int r.num] = [PyData.int (r⁻¹).num, PyData.int (r⁻¹).den] := by
  have hn := num_pos1 h
  have e : r⁻¹ = (⟨(r.den : Int), r.num.natAbs, by omega, by rw [Int.natAbs_natCast, Nat.coprime_comm]; exact r.reduced⟩ : Rat) := by
    rw [Rat.mk_eq_divInt, Rat.divInt_eq_div]
    have q : r = ((r.num : Int) : Rat) / (((r.den : Int)) : Rat) := by rw [← Rat.divInt_eq_div, Rat.num_divInt_den]
    have z : (((r.den : Int)) : Rat) ≠ 0 := by exact_mod_cast r.den_nz
    have y : ((r.num : Int) : Rat) ≠ 0 := by exact_mod_cast (by omega : r.num ≠ 0)
    rw [show ((r.num.natAbs : Nat) : Int) = r.num by omega]
    generalize (((r.den : Int)) : Rat) = D at *
    generalize ((r.num : Int) : Rat) = N at *
    rw [q]; clear q
    grind
  rw [e]
  show _ = [PyData.int (r.den : Int), PyData.int ((r.num.natAbs : Nat) : Int)]
  rw [show ((r.num.natAbs : Nat) : Int) = r.num by omega]
theorem mul_mono {a x y : Rat} (ha : 0 ≤ a) (h : x ≤ y) : a * x ≤ a * y := Rat.mul_le_mul_of_nonneg_left h ha
theorem comb_mono {a b x y x' y' : Rat} (ha : 0 ≤ a) (hb : 0 ≤ b) (h : x ≤ x') (h' : y ≤ y') : a * x + b * y ≤ a * x' + b * y' := by
  have h1 := mul_mono ha h
  have h2 := mul_mono hb h'
  grind
def sumTo (f : Nat → Rat) : Nat → Rat
  | 0 => 0
  | n + 1 => sumTo f n + f n
theorem sumTo_eq {f g : Nat → Rat} : ∀ {n : Nat}, (∀ i, i < n → f i = g i) → sumTo f n = sumTo g n
  | 0, _ => rfl
  | n + 1, h => by rw [sumTo, sumTo, sumTo_eq fun i hi => h i (by omega), h n (by omega)]
theorem sumTo_mul {f : Nat → Rat} {x : Rat} : ∀ n : Nat, sumTo (fun i => x * f i) n = x * sumTo f n
  | 0 => by rw [sumTo, sumTo, Rat.mul_zero]
  | n + 1 => by rw [sumTo, sumTo, sumTo_mul n]; grind
theorem sumTo_add {f g : Nat → Rat} : ∀ n : Nat, sumTo (fun i => f i + g i) n = sumTo f n + sumTo g n
  | 0 => by rw [sumTo, sumTo, sumTo]; grind
  | n + 1 => by rw [sumTo, sumTo, sumTo, sumTo_add n]; grind
theorem mul_powQ (x y : Rat) : ∀ n : Nat, (x * y) ^ n = x ^ n * y ^ n
  | 0 => by rw [Rat.pow_zero, Rat.pow_zero, Rat.pow_zero, Rat.mul_one]
  | n + 1 => by rw [pow_succ', pow_succ', pow_succ', mul_powQ x y n]; grind
theorem pow_addQ (x : Rat) (m : Nat) : ∀ n : Nat, x ^ (m + n) = x ^ m * x ^ n
  | 0 => by rw [Rat.pow_zero, Rat.mul_one]; rfl
  | n + 1 => by rw [show m + (n + 1) = (m + n) + 1 by omega, pow_succ', pow_succ', pow_addQ x m n, Rat.mul_assoc]
theorem list_rng {α : Type} [Inhabited α] (l : List α) : (List.range l.length).map (fun (j : Nat) => ixG l (j : Int)) = l := by
  apply List.ext_getElem?
  intro i
  rw [List.getElem?_map]
  by_cases h : i < l.length
  · rw [List.getElem?_range h, List.getElem?_eq_getElem h]
    exact congrArg some (ixG_nat (List.getElem?_eq_getElem h))
  · rw [List.getElem?_eq_none (by simpa using h), List.getElem?_eq_none (by simpa using h)]; rfl
theorem ixG_rng {β : Type} [Inhabited β] {f : Nat → β} {n j : Nat} (h : j < n) : ixG ((List.range n).map f) (j : Int) = f j :=
  ixG_nat (by rw [List.getElem?_map, List.getElem?_range h]; rfl)
theorem rev_rng {β : Type} (f : Nat → β) (n : Nat) : ((List.range n).map f).reverse = (List.range n).map fun s => f (n - 1 - s) := by
  apply List.ext_getElem?
  intro i
  by_cases h : i < n
  · rw [List.getElem?_reverse (by simpa using h), List.getElem?_map, List.getElem?_map, List.length_map, List.length_range, List.getElem?_range h, List.getElem?_range (by omega)]
    rfl
  · rw [List.getElem?_eq_none (by simpa using h), List.getElem?_eq_none (by simpa using h)]
theorem div_posQ {x y : Rat} (h : 0 < x) (h2 : 0 < y) : 0 < x / y := by rw [Rat.div_def]; exact Rat.mul_pos h (Rat.inv_pos.mpr h2)
theorem inv_powQ {r : Rat} (h : r ≠ 0) : ∀ n : Nat, (r⁻¹) ^ n = (r ^ n)⁻¹
  | 0 => by rw [Rat.pow_zero, Rat.pow_zero]; decide +kernel
  | n + 1 => by rw [pow_succ', pow_succ', inv_powQ h n, Rat.inv_mul_rev, Rat.mul_comm]
theorem nlt {a b : Rat} (h : b ≤ a) : decide (a < b) = false := decide_eq_false (Rat.not_lt.mpr h)
theorem asc_len : ∀ {l : List Int} {a b : Int}, l.Pairwise (· < ·) → (∀ x ∈ l, a ≤ x ∧ x ≤ b) → a ≤ b + 1 → (l.length : Int) ≤ b + 1 - a
  | [], a, b, _, _, h => by simp; omega
  | x :: l, a, b, h, hx, _ => by
    rw [List.pairwise_cons] at h
    have h1 := hx x (List.mem_cons_self ..)
    have := asc_len (l := l) (a := x + 1) (b := b) h.2 (fun y hy => ⟨by have := h.1 y hy; omega, (hx y (List.mem_cons_of_mem _ hy)).2⟩) (by omega)
    rw [List.length_cons]; push_cast; omega
theorem putP_nodup {α : Type} {l : List (Int × α)} {k : Int} {x : α} (h : (l.map Prod.fst).Nodup) : ((putP l k x).map Prod.fst).Nodup := by
  unfold putP
  split
  · rw [List.map_map]
    have e : (Prod.fst ∘ fun p : Int × α => if p.1 = k then (p.1, x) else p) = Prod.fst := by funext p; show (if p.1 = k then (p.1, x) else p).1 = p.1; split <;> rfl
    rw [e]; exact h
  · rename_i q
    rw [List.map_append]
    refine List.nodup_append.mpr ⟨h, by simp, fun a ha b hb => ?_⟩
    rw [List.map_cons, List.map_nil, List.mem_singleton] at hb
    subst hb
    intro e
    subst e
    obtain ⟨p, hp, e⟩ := List.mem_map.mp ha
    have := List.any_eq_false.mp q p hp
    exact this (decide_eq_true e)
theorem Fa.get {α β : Type} {R : α → β → Prop} {l : List α} {m : List β} (h : Fa R l m) : ∀ {i : Nat} {b : β}, m[i]? = some b → ∃ a, l[i]? = some a ∧ R a b := by
  induction h with
  | nil => intro i b hb; simp at hb
  | cons r _ ih =>
    intro i b hb
    cases i with
    | zero => cases hb; exact ⟨_, rfl, r⟩
    | succ i => exact ih (by simpa using hb)
theorem asc_ix : ∀ {l : List Int} {i j : Nat} {a b : Int}, l.Pairwise (· < ·) → l[i]? = some a → l[j]? = some b → i < j → a < b
  | [], i, j, a, b, _, h, _, _ => by simp at h
  | x :: l, 0, j + 1, a, b, h, h1, h2, _ => by
    rw [List.pairwise_cons] at h
    have e : x = a := by simpa using h1
    rw [← e]
    exact h.1 b (List.mem_of_getElem? (by simpa using h2))
  | x :: l, i + 1, j + 1, a, b, h, h1, h2, hij => by
    rw [List.pairwise_cons] at h
    exact asc_ix h.2 (by simpa using h1) (by simpa using h2) (by omega)
theorem ixG_some {α : Type} [Inhabited α] {l : List α} {i : Int} (h : 0 ≤ i ∧ i < l.length) : l[i.toNat]? = some (ixG l i) := by
  have e : l[i.toNat]? = some (l[i.toNat]'(by omega)) := List.getElem?_eq_getElem (by omega)
  have := ixG_nat e
  rw [show ((i.toNat : Nat) : Int) = i by omega] at this
  rw [e, this]
theorem div_lt {a b c : Int} (h : a < b) (hc : 0 < c) : Rat.divInt a c < Rat.divInt b c := (less_i (a := a) (b := c) (c := b) (d := c) hc hc).mp (Int.mul_lt_mul_of_pos_right h hc)
theorem one_ne {x : Int} {n : Int} (h : ∃ a b : Int, a = 1 ∧ (0 ≤ b ∧ b < n) ∧ x = 1 + b) : x ≠ 0 := by
  obtain ⟨a, b, _, hb, e⟩ := h; omega
theorem one_lt {x : Int} {n : Int} (h : ∃ a b : Int, a = 1 ∧ (0 ≤ b ∧ b < n) ∧ x = 1 + b) (hn : n < 1000) : x.natAbs < 2 ^ 8999 := by
  obtain ⟨a, b, _, hb, e⟩ := h; exact small_lt (by omega)
theorem two_pow (x : Nat) : 2 ^ x + 2 ^ x = 2 ^ (x + 1) := by rw [Nat.pow_succ]; omega
theorem cut_mid {α : Type} (l : List α) {a b : Int} (h : 0 ≤ a ∧ a ≤ b ∧ b ≤ l.length) : cutX l (some a) (some b) = (l.drop a.toNat).take (b.toNat - a.toNat) := by
  have h1 : ∀ d, HT.sIx l.length d (some a) = a.toNat := fun d => by
    show (if a < 0 then _ else min a.toNat l.length) = _
    rw [if_neg (by omega)]; omega
  have h2 : ∀ d, HT.sIx l.length d (some b) = b.toNat := fun d => by
    show (if b < 0 then _ else min b.toNat l.length) = _
    rw [if_neg (by omega)]; omega
  unfold cutX
  rw [h1, h2]
theorem mem3 {α : Type} {a b c x : α} (h : x ∈ [a, b, c]) : x = a ∨ x = b ∨ x = c := by simpa using h
theorem mem2 {α : Type} {a b x : α} (h : x ∈ [a, b]) : x = a ∨ x = b := by simpa using h
def bin : Nat → Nat → Nat
  | _, 0 => 1
  | 0, _ + 1 => 0
  | n + 1, k + 1 => bin n k + bin n (k + 1)
theorem bin_zero (n : Nat) : bin n 0 = 1 := by cases n <;> rfl
theorem bin_gt : ∀ {n k : Nat}, n < k → bin n k = 0
  | 0, _ + 1, _ => rfl
  | n + 1, k + 1, h => by
    show bin n k + bin n (k + 1) = 0
    rw [bin_gt (by omega), bin_gt (by omega)]
theorem bin_self : ∀ n, bin n n = 1
  | 0 => rfl
  | n + 1 => by
    show bin n n + bin n (n + 1) = 1
    rw [bin_self, bin_gt (by omega)]
theorem bin_pos : ∀ {n k : Nat}, k ≤ n → 0 < bin n k
  | _, 0, _ => by rw [bin_zero]; decide
  | n + 1, k + 1, h => by
    show 0 < bin n k + bin n (k + 1)
    have := bin_pos (n := n) (k := k) (by omega)
    omega
theorem bin_le : ∀ n k, bin n k ≤ 2 ^ n
  | 0, 0 => by decide
  | 0, _ + 1 => by show 0 ≤ 1; decide
  | n + 1, 0 => by rw [bin_zero]; exact Nat.one_le_two_pow
  | n + 1, k + 1 => by
    show bin n k + bin n (k + 1) ≤ 2 ^ (n + 1)
    have := bin_le n k
    have := bin_le n (k + 1)
    rw [Nat.pow_succ]; omega
theorem bin_step : ∀ n k, bin n (k + 1) * (k + 1) = bin n k * (n - k)
  | 0, k => by
    show 0 * (k + 1) = _
    rw [Nat.zero_sub, Nat.mul_zero, Nat.zero_mul]
  | n + 1, 0 => by
    have h : bin n 1 = n := by simpa [bin_zero] using bin_step n 0
    show (bin n 0 + bin n 1) * 1 = bin (n + 1) 0 * (n + 1)
    rw [bin_zero, bin_zero, h]
    omega
  | n + 1, k + 1 => by
    have h1 := bin_step n k
    have h2 := bin_step n (k + 1)
    show (bin n (k + 1) + bin n (k + 2)) * (k + 2) = (bin n k + bin n (k + 1)) * (n + 1 - (k + 1))
    by_cases hk : k ≤ n
    · by_cases hk2 : k = n
      · subst hk2
        rw [bin_gt (show k < k + 1 by omega), bin_gt (show k < k + 2 by omega)]
        simp
      · obtain ⟨m, rfl⟩ : ∃ m, n = k + 1 + m := ⟨n - (k + 1), by omega⟩
        rw [show k + 1 + m - k = m + 1 by omega] at h1
        rw [show k + 1 + m - (k + 1) = m by omega] at h2
        rw [show k + 1 + m + 1 - (k + 1) = m + 1 by omega]
        have e1 : (bin (k + 1 + m) (k + 1) + bin (k + 1 + m) (k + 2)) * (k + 2) = bin (k + 1 + m) (k + 1) * (k + 1) + bin (k + 1 + m) (k + 1) + bin (k + 1 + m) (k + 1 + 1) * (k + 1 + 1) := by
          rw [Nat.add_mul, Nat.mul_add _ (k + 1) 1, Nat.mul_one]
        rw [e1, h1, h2, Nat.add_mul]
        rw [Nat.mul_add (bin (k + 1 + m) (k + 1)) m 1, Nat.mul_one]
        omega
    · rw [bin_gt (show n < k + 1 by omega), bin_gt (show n < k + 2 by omega), bin_gt (show n < k by omega)]
      simp
theorem bin_next {n k : Nat} : bin n k * (n - k) / (k + 1) = bin n (k + 1) := by
  rw [← bin_step]; exact Nat.mul_div_cancel _ (by omega)
def chI (n k : Int) : Int := if k < 0 ∨ n < k then 0 else (bin n.toNat k.toNat : Int)
theorem chI_nat {n k : Nat} : chI n k = (bin n k : Int) := by
  unfold chI
  by_cases h : n < k
  · rw [if_pos (.inr (by omega)), bin_gt h]; rfl
  · rw [if_neg (by omega)]; rfl
theorem bin_stepI {n : Int} {k : Nat} (h : (k : Int) < n) : ((bin n.toNat k : Nat) : Int) * (n - (k : Int)) / ((k : Int) + 1) = ((bin n.toNat (k + 1) : Nat) : Int) := by
  rw [← bin_next, Int.natCast_ediv, Int.natCast_mul]
  have : ((n.toNat - k : Nat) : Int) = n - k := by omega
  rw [this]; rfl
theorem bin_stepJ {n : Int} {k : Nat} (h : 0 ≤ n) : ((bin n.toNat k : Nat) : Int) * (n - (k : Int)) / ((k : Int) + 1) = ((bin n.toNat (k + 1) : Nat) : Int) := by
  by_cases hk : (k : Int) < n
  · exact bin_stepI hk
  · rw [bin_gt (show n.toNat < k + 1 by omega)]
    by_cases e : (k : Int) = n
    · rw [e, Int.sub_self, Int.mul_zero, Int.zero_ediv]; rfl
    · rw [bin_gt (show n.toNat < k by omega)]; simp
theorem chI_nonneg (n k : Int) : 0 ≤ chI n k := by unfold chI; split <;> omega
theorem chI_le {n k : Int} : (chI n k).natAbs ≤ 2 ^ n.toNat := by
  unfold chI
  split
  · simp
  · exact bin_le _ _
theorem chI_pos {n k : Int} (h : 0 ≤ k ∧ k ≤ n) : 0 < chI n k := by
  unfold chI
  rw [if_neg (by omega)]
  have := bin_pos (n := n.toNat) (k := k.toNat) (by omega)
  omega
theorem chI_Qk {m n k j : Int} {b : Nat} (h : 0 ≤ k ∧ k ≤ n) (hn : n ≤ b) (hm : m ≤ b) : Qk b (Rat.divInt (chI m j) (chI n k)) :=
  Qk_divInt (chI_pos h) (Nat.le_trans chI_le (Nat.pow_le_pow_right (by decide) (by omega))) (Nat.le_trans chI_le (Nat.pow_le_pow_right (by decide) (by omega)))
theorem lawch_ret {many few : Int} (h : 0 ≤ many) : PyData.int (if (decide ((0 : Int) ≤ few) && decide (few ≤ many)) = true then ((bin many.toNat (List.range few.toNat).length : Nat) : Int) else 0) = PyData.int (chI many few) := by
  rw [List.length_range]
  unfold chI
  by_cases h1 : few < 0 ∨ many < few
  · rw [if_pos h1, if_neg (by simp; omega)]
  · rw [if_neg h1, if_pos (by simp; omega)]
theorem cut_last {α : Type} (l : List α) : cutX l none (some (-(1 : Int))) = l.take (l.length - 1) := by
  unfold cutX
  have e0 : HT.sIx l.length 0 none = 0 := rfl
  have e1 : HT.sIx l.length l.length (some (-(1 : Int))) = l.length - 1 := by
    unfold HT.sIx
    simp
    omega
  rw [e0, e1, List.drop_zero, Nat.sub_zero]
theorem cut_len {l : List Int} : (cutX l none (some (-(1 : Int)))).length ≤ l.length := by rw [cut_last, List.length_take]; omega
theorem cut_back {α : Type} (l : List α) (k : Int) (hk : 0 ≤ k ∧ k ≤ l.length) : cutX l (some k) none = l.drop k.toNat ∧ cutX l none (some k) = l.take k.toNat := by
  have h0 : HT.sIx l.length 0 none = 0 := rfl
  have h1 : HT.sIx l.length l.length none = l.length := rfl
  have h2 : ∀ d, HT.sIx l.length d (some k) = k.toNat := fun d => by
    show (if k < 0 then _ else min k.toNat l.length) = _
    rw [if_neg (by omega)]; omega
  unfold cutX
  rw [h0, h1, h2, h2]
  refine ⟨?_, by simp⟩
  rw [List.take_of_length_le (by rw [List.length_drop]; omega)]
theorem ch_out {n k : Int} (h : (decide (k < 0) || decide (n < k)) = true) : PyData.int 0 = PyData.int (chI n k) := by
  simp only [Bool.or_eq_true, decide_eq_true_eq] at h
  unfold chI; rw [if_pos h]
theorem ch_in {n k : Int} (h : (decide (k < 0) || decide (n < k)) = false) : PyData.int ((bin n.toNat (List.range k.toNat).length : Nat) : Int) = PyData.int (chI n k) := by
  simp only [Bool.or_eq_false_iff, decide_eq_false_iff_not] at h
  unfold chI; rw [if_neg (by omega), List.length_range]
end Nz

/-! x < y, x > y of alike data -/
namespace Nz
open PySem PySem.Spec PyProof.Rows L2 RZ PySem.W
def rCmpD (K : PySem.W.Frag) (f : PyData → PyData → Bool) : R2 := fun x y H Q => ∃ d e, Dp K H x d ∧ Dp K H y e ∧ alike d e = true ∧ d ≠ .none ∧ d.depth ≤ 50 ∧ Q (.bl (f d e)) H
theorem op_ltD {X : Cx} (hu : X.A.units + 64 < cLine) : OpR X (compareOp .Lt) (rCmpD X.K dataLt) := by
  intro pins s σ H x y v u Q I rx ry h
  obtain ⟨d, e, hd, he, al, hn, hz, q⟩ := h
  obtain ⟨as, r1⟩ := Dp.reads I d x v hd rx
  obtain ⟨bs, r2⟩ := Dp.reads I e y u he ry
  exact lt_data r1 r2 al hn (by omega) ⟨.bl _, H, I, rfl, q⟩
theorem op_gtD {X : Cx} (hu : X.A.units + 64 < cLine) : OpR X (compareOp .Gt) (rCmpD X.K fun d e => dataLt e d) := by
  intro pins s σ H x y v u Q I rx ry h
  obtain ⟨d, e, hd, he, al, hn, hz, q⟩ := h
  obtain ⟨as, r1⟩ := Dp.reads I d x v hd rx
  obtain ⟨bs, r2⟩ := Dp.reads I e y u he ry
  exact gt_data r1 r2 al hn (by omega) ⟨.bl _, H, I, rfl, q⟩
section
variable {c : Cz} {ρ ρ1 ρ2 : List Sl} {ta tb : TE} {d1 d2 : PyData}
theorem ed_cmpD {f : PyData → PyData → Bool} (ha : Ed c ρ ta d1 ρ1) (hb : Ed c ρ1 tb d2 ρ2) (al : alike d1 d2 = true) (hn : d1 ≠ .none) (hz : d1.depth ≤ 50) : Ed c ρ (tOp (rCmpD c.K f) ta tb) (.bool (f d1 d2)) ρ2 :=
  ed_op ha hb fun T σ H x y W hx hy Q q => ⟨d1, d2, dz_dp _ _ (dpm (hide_ex _ _) hx), dz_dp _ _ (dpm (hide_ex _ _) hy), al, hn, hz, q _ H (W.push (.bl _))⟩
end
/-! x in l, x in t: data -/
def rInT (K : PySem.W.Frag) (neg : Bool) : R2 := fun x y H Q => ∃ d ds, Dp K H x d ∧ Dp K H y (.tuple ds) ∧ SeqAt.shaped d = true ∧ SeqAt.shaped (.tuple ds) = true ∧ Q (.bl (if neg = true then !ds.any fun z => PyData.eqv z d else ds.any fun z => PyData.eqv z d)) H
def rInL (K : PySem.W.Frag) (neg : Bool) : R2 := fun x y H Q => ∃ d ds, Dp K H x d ∧ Dp K H y (.list ds) ∧ SeqAt.shaped d = true ∧ SeqAt.shaped (.list ds) = true ∧ Q (.bl (if neg = true then !ds.any fun z => PyData.eqv z d else ds.any fun z => PyData.eqv z d)) H
section
variable {X : Cx}
theorem op_inTD (hu : X.A.units + 65 < cLine) : OpR X (compareOp .In) (rInT X.K false) := by
  intro pins s σ H x y v u Q I rx ry h
  obtain ⟨d, ds, hd, he, sd, se, q⟩ := h
  obtain ⟨as, r1⟩ := Dp.reads I d x v hd rx
  obtain ⟨bs, r2⟩ := Dp.reads I (.tuple ds) y u he ry
  exact SeqAt.in_tuple_reads r2 r1 (SeqAt.canLay_of_shaped se) (SeqAt.canLay_of_shaped sd) (room_in_shaped sd hu) ⟨.bl _, H, I, rfl, q⟩
theorem op_ninTD (hu : X.A.units + 65 < cLine) : OpR X (compareOp .NotIn) (rInT X.K true) := by
  intro pins s σ H x y v u Q I rx ry h
  obtain ⟨d, ds, hd, he, sd, se, q⟩ := h
  obtain ⟨as, r1⟩ := Dp.reads I d x v hd rx
  obtain ⟨bs, r2⟩ := Dp.reads I (.tuple ds) y u he ry
  exact SeqAt.notIn_tuple_reads r2 r1 (SeqAt.canLay_of_shaped se) (SeqAt.canLay_of_shaped sd) (room_in_shaped sd hu) ⟨.bl _, H, I, rfl, q⟩
theorem op_inLD (hu : X.A.units + 65 < cLine) : OpR X (compareOp .In) (rInL X.K false) := by
  intro pins s σ H x y v u Q I rx ry h
  obtain ⟨d, ds, hd, he, sd, se, q⟩ := h
  obtain ⟨as, r1⟩ := Dp.reads I d x v hd rx
  obtain ⟨bs, r2⟩ := Dp.reads I (.list ds) y u he ry
  exact SeqAt.in_list_reads r2 r1 (SeqAt.canLay_of_shaped se) (SeqAt.canLay_of_shaped sd) (room_in_shaped sd hu) ⟨.bl _, H, I, rfl, q⟩
theorem op_ninLD (hu : X.A.units + 65 < cLine) : OpR X (compareOp .NotIn) (rInL X.K true) := by
  intro pins s σ H x y v u Q I rx ry h
  obtain ⟨d, ds, hd, he, sd, se, q⟩ := h
  obtain ⟨as, r1⟩ := Dp.reads I d x v hd rx
  obtain ⟨bs, r2⟩ := Dp.reads I (.list ds) y u he ry
  exact SeqAt.notIn_list_reads r2 r1 (SeqAt.canLay_of_shaped se) (SeqAt.canLay_of_shaped sd) (room_in_shaped sd hu) ⟨.bl _, H, I, rfl, q⟩
end
section
variable {c : Cz} {ρ ρ1 ρ2 : List Sl} {ta tb : TE} {d1 : PyData} {ds : List PyData} {neg : Bool}
theorem ed_inTD (ha : Ed c ρ ta d1 ρ1) (hb : Ed c ρ1 tb (.tuple ds) ρ2) (s1 : SeqAt.shaped d1 = true) (s2 : SeqAt.shaped (.tuple ds) = true) : Ed c ρ (tOp (rInT c.K neg) ta tb) (.bool (if neg = true then !ds.any fun z => PyData.eqv z d1 else ds.any fun z => PyData.eqv z d1)) ρ2 :=
  ed_op ha hb fun T σ H x y W hx hy Q q => ⟨d1, ds, dz_dp _ _ (dpm (hide_ex _ _) hx), dz_dp _ _ (dpm (hide_ex _ _) hy), s1, s2, q _ H (W.push (.bl _))⟩
theorem ed_inLD (ha : Ed c ρ ta d1 ρ1) (hb : Ed c ρ1 tb (.list ds) ρ2) (s1 : SeqAt.shaped d1 = true) (s2 : SeqAt.shaped (.list ds) = true) : Ed c ρ (tOp (rInL c.K neg) ta tb) (.bool (if neg = true then !ds.any fun z => PyData.eqv z d1 else ds.any fun z => PyData.eqv z d1)) ρ2 :=
  ed_op ha hb fun T σ H x y W hx hy Q q => ⟨d1, ds, dz_dp _ _ (dpm (hide_ex _ _) hx), dz_dp _ _ (dpm (hide_ex _ _) hy), s1, s2, q _ H (W.push (.bl _))⟩
end
theorem room65 {k : Nat} {A : Around} (r : Room k A) : A.units + 65 < cLine := by have := r.un; omega
/-! equal data is equal -/
class EqE {α : Type} [DecidableEq α] (f : α → PyData) : Prop where
  eq : ∀ a b, PyData.eqv (f a) (f b) = decide (a = b)
instance : EqE PyData.int := ⟨eqv_int⟩
instance : EqE eQ := ⟨eqv_Q⟩
instance {α β : Type} [DecidableEq α] [DecidableEq β] {f : α → PyData} {g : β → PyData} [EqE f] [EqE g] : EqE (eP f g) := ⟨fun a b => by
  show PyData.eqv (.tuple [f a.1, g a.2]) (.tuple [f b.1, g b.2]) = _
  rw [PyData.eqv, PyData.eqvAll, PyData.eqvAll, PyData.eqvAll, EqE.eq a.1 b.1, EqE.eq a.2 b.2, Bool.and_true]
  obtain ⟨a1, a2⟩ := a
  obtain ⟨b1, b2⟩ := b
  by_cases h1 : a1 = b1 <;> by_cases h2 : a2 = b2 <;> simp [h1, h2]⟩
theorem eqvAll_map {α : Type} [DecidableEq α] {f : α → PyData} [EqE f] : ∀ l m : List α, PyData.eqvAll (l.map f) (m.map f) = decide (l = m)
  | [], [] => by simp [PyData.eqvAll]
  | [], b :: m => by simp [PyData.eqvAll]
  | a :: l, [] => by simp [PyData.eqvAll]
  | a :: l, b :: m => by
    rw [List.map_cons, List.map_cons, PyData.eqvAll, EqE.eq a b, eqvAll_map l m]
    by_cases h1 : a = b <;> by_cases h2 : l = m <;> simp [h1, h2]
instance {α : Type} [DecidableEq α] {f : α → PyData} [EqE f] : EqE (eT f) := ⟨fun a b => by
  show PyData.eqv (.tuple (a.map f)) (.tuple (b.map f)) = _
  rw [PyData.eqv, eqvAll_map]⟩
instance {α : Type} [DecidableEq α] {f : α → PyData} [EqE f] : EqE (eL f) := ⟨fun a b => by
  show PyData.eqv (.list (a.map f)) (.list (b.map f)) = _
  rw [PyData.eqv, eqvAll_map]⟩
theorem any_in {α : Type} [DecidableEq α] {f : α → PyData} [EqE f] (l : List α) (a : α) : ((l.map f).any fun z => PyData.eqv z (f a)) = decide (a ∈ l) := by
  induction l with
  | nil => simp
  | cons b l ih =>
    rw [List.map_cons, List.any_cons, ih, EqE.eq b a]
    by_cases h1 : b = a
    · simp [h1]
    · have h2 : ¬ a = b := fun e => h1 e.symm
      simp [h1, h2]
theorem in_data {α : Type} [DecidableEq α] {f : α → PyData} [EqE f] (l : List α) (a : α) : PyData.bool (if false = true then !(l.map f).any fun z => PyData.eqv z (f a) else (l.map f).any fun z => PyData.eqv z (f a)) = PyData.bool (decide (a ∈ l)) := by
  rw [if_neg (by decide), any_in]
theorem nin_data {α : Type} [DecidableEq α] {f : α → PyData} [EqE f] (l : List α) (a : α) : PyData.bool (if true = true then !(l.map f).any fun z => PyData.eqv z (f a) else (l.map f).any fun z => PyData.eqv z (f a)) = PyData.bool (!decide (a ∈ l)) := by
  rw [if_pos rfl, any_in]
abbrev I9 := Int × Int × Int × Int × Int × Int × Int × Int × Int
abbrev eI9 (p : I9) : PyData := .tuple [.int p.1, .int p.2.1, .int p.2.2.1, .int p.2.2.2.1, .int p.2.2.2.2.1, .int p.2.2.2.2.2.1, .int p.2.2.2.2.2.2.1, .int p.2.2.2.2.2.2.2.1, .int p.2.2.2.2.2.2.2.2]
end Nz

/-! k87: packs, cards -/
namespace Nz
open PySem PySem.Spec PyProof.Rows L2 RZ PySem.W
abbrev Card := Int × Int
def PackOk (ranks suits : Int) : Prop := (5 ≤ ranks ∧ ranks ≤ 13) ∧ 1 ≤ suits ∧ suits ≤ 6
def InPk (ranks suits : Int) (p : Card) : Prop := (0 ≤ p.1 ∧ p.1 < ranks) ∧ 0 ≤ p.2 ∧ p.2 < suits
def CardLt (p q : Card) : Prop := p.1 < q.1 ∨ (p.1 = q.1 ∧ p.2 < q.2)
instance (p q : Card) : Decidable (CardLt p q) := inferInstanceAs (Decidable (_ ∨ _))
def CardsOk (ranks suits : Int) (l : List Card) : Prop := (∀ p ∈ l, InPk ranks suits p) ∧ l.Pairwise CardLt
theorem card_lt (p q : Card) : dataLt (eP PyData.int PyData.int p) (eP PyData.int PyData.int q) = decide (CardLt p q) := by
  show dataLt (.tuple [.int p.1, .int p.2]) (.tuple [.int q.1, .int q.2]) = _
  rw [dataLt_ii]
  rfl
theorem asc_card {l : List Card} (h : l.Pairwise CardLt) {i j : Nat} {a b : Card} (hi : l[i]? = some a) (hj : l[j]? = some b) (hij : i < j) : CardLt a b := by
  obtain ⟨h1, rfl⟩ := List.getElem?_eq_some_iff.mp hi
  obtain ⟨h2, rfl⟩ := List.getElem?_eq_some_iff.mp hj
  exact List.pairwise_iff_getElem.mp h i j h1 h2 hij
theorem card_alike (p q : Card) : alike (eP PyData.int PyData.int p) (eP PyData.int PyData.int q) = true := rfl
theorem card_depth (p : Card) : (eP PyData.int PyData.int p).depth ≤ 50 := by
  rw [PyData.depth, PyData.depthAll, PyData.depthAll, PyData.depthAll, show (PyData.int p.1).depth = 0 from rfl, show (PyData.int p.2).depth = 0 from rfl]; decide
theorem not_len {n : Int} {l : List Card} (h : decide ((l.length : Int) = n) = true) : n = l.length := (of_decide_eq_true h).symm
theorem chI_sm {n : Int} (k : Int) (h : n ≤ 13) : 0 ≤ chI n k ∧ chI n k ≤ 8192 := by
  have h1 := chI_le (n := n) (k := k)
  have h2 := chI_nonneg n k
  have h3 : 2 ^ n.toNat ≤ 2 ^ 13 := Nat.pow_le_pow_right (by decide) (by omega)
  have h4 : (2 : Nat) ^ 13 = 8192 := by decide
  omega
abbrev T9 := Int × Int × Int × Int × Int × Int × Int × Int × Int
def sortsF (r s : Int) : T9 :=
  let rows := r - 4
  let both := rows * s
  let four := r * chI s 4 * (r - 1) * s + r * chI s 5
  let house := r * chI s 3 * (r - 1) * chI s 2
  let suit := s * (chI r 5 - rows)
  let row := rows * (s * s * s * s * s - s)
  let three := r * chI s 3 * chI (r - 1) 2 * s * s
  let pairs := chI r 2 * chI s 2 * chI s 2 * (r - 2) * s
  let pair := r * chI s 2 * chI (r - 1) 3 * s * s * s
  let high := chI (r * s) 5 - both - four - house - suit - row - three - pairs - pair
  (high, pair, pairs, three, row, suit, house, four, both)
theorem are_no {l : List Card} {n : Int} (h : (!true || (!decide ((l.length : Int) = n) || !((l.map fun (_ : Card) => true).all id))) = true) : false = decide ((l.length : Int) = n) := by
  rw [all_id (fun _ _ => rfl)] at h
  simp at h
  exact (decide_eq_false h).symm
theorem are_len {l : List Card} {n : Int} (h : (!true || (!decide ((l.length : Int) = n) || !((l.map fun (_ : Card) => true).all id))) = false) : (l.length : Int) = n := by
  rw [all_id (fun _ _ => rfl)] at h
  simpa using h
theorem len_of {l : List Card} {n : Int} (h : (!decide ((l.length : Int) = n)) = false) (hn : 0 ≤ n ∧ n ≤ 8) : l.length ≤ 100000 := by
  have : (l.length : Int) = n := by simpa using h
  omega
end Nz

/-! k87: how many hands of each sort, in two ways -/
namespace Nz
open PySem PySem.Spec PyProof.Rows L2 RZ PySem.W
def lawF (r s : Int) : T9 :=
  let one := chI s 1
  let two := chI s 2
  let three := chI s 3
  let four := chI s 4
  let five := chI s 5
  let rows := if r - 4 > 0 then r - 4 else 0
  let whole := chI r 5 * one * one * one * one * one
  let pair := r * two * chI (r - 1) 3 * one * one * one
  let pairs := chI r 2 * two * two * (r - 2) * one
  let triple := r * three * chI (r - 1) 2 * one * one
  let house := r * three * (r - 1) * two
  let equal := r * four * (r - 1) * one + r * five
  let both := rows * s
  let row := rows * one * one * one * one * one - both
  let suit := chI r 5 * s - both
  (whole - row - suit - both, pair, pairs, triple, row, suit, house, equal, both)
def sum9 (p : T9) : Int := p.1 + p.2.1 + p.2.2.1 + p.2.2.2.1 + p.2.2.2.2.1 + p.2.2.2.2.2.1 + p.2.2.2.2.2.2.1 + p.2.2.2.2.2.2.2.1 + p.2.2.2.2.2.2.2.2
set_option synthInstance.maxHeartbeats 0 in
set_option synthInstance.maxSize 2000 in
theorem all_packs : ∀ r : Fin 9, ∀ s : Fin 6, sortsF ((r.val : Int) + 5) ((s.val : Int) + 1) = lawF ((r.val : Int) + 5) ((s.val : Int) + 1) ∧ sum9 (lawF ((r.val : Int) + 5) ((s.val : Int) + 1)) = chI (((r.val : Int) + 5) * ((s.val : Int) + 1)) 5 := by decide +kernel
theorem sorts_law {r s : Int} (h : PackOk r s) : sortsF r s = lawF r s ∧ sum9 (lawF r s) = chI (r * s) 5 := by
  obtain ⟨⟨h1, h2⟩, h3, h4⟩ := h
  have := all_packs ⟨(r - 5).toNat, by omega⟩ ⟨(s - 1).toNat, by omega⟩
  have e1 : (((r - 5).toNat : Nat) : Int) + 5 = r := by omega
  have e2 : (((s - 1).toNat : Nat) : Int) + 1 = s := by omega
  dsimp only at this
  rw [e1, e2] at this
  exact this
end Nz

/-! walks of a dict's pairs while it is locked; dict comprehensions; two fors in one comprehension -/
namespace Nz
open PySem PySem.Spec PyProof.Rows L2 RZ
/-- walks that hold in each frame that keeps what c keeps -/
def WalksB (c0 : Cz) (J : It) (T1 : Tm) (ds : List Itm) : Prop := ∀ (c : Cz) (T : Tm) (σ : L2.St) (H : Hp) (ρ : List Sl), c.K = c0.K → c.M = c0.M → (∀ b o, c0.B b = some o → c.B b = some o) → Wd c (T1 ++ T) H σ ρ →
  (∀ i, i < ds.length → J.go i H ∧ ∀ x H', J.yld i H x H' → ∃ d, ds[i]? = some d ∧ YOk c (T1 ++ T) H' σ ρ x d) ∧ ∀ i, ds.length ≤ i → J.stop i H
def EiB (c : Cz) (ρ : List Sl) (wi : TI) (ds : List Itm) (ρ' : List Sl) : Prop := ∀ (T : Tm) (σ : L2.St) (H : Hp), Wd c T H σ ρ → ∀ R : It → Hp → Prop, (∀ J H' T1, Wd c (T1 ++ T) H' σ ρ' → WalksB c J T1 ds → R J H') → wi σ H R
section
variable {c : Cz} {ρ ρ1 ρ2 ρ3 : List Sl} {ta tb te tx tk tv : TE} {t u : TT} {d d1 d2 d3 : PyData} {T : Tm} {H H' : Hp} {σ : L2.St}
theorem Ei.b {wi : TI} {ds : List Itm} (h : Ei c ρ wi ds ρ1) : EiB c ρ wi ds ρ1 := fun T σ H W R q => h T σ H W R fun J H' T1 W1 hw => q J H' T1 W1 fun c' T' σ' H2 ρ' hK _ _ W' => hw c' T' σ' H2 ρ' hK W'
/-- by the turn: what the frame holds, what the new list holds -/
theorem el_lcB {wi : TI} {g : TG} {tt : TT} {vs : List Nat} {ds : List Itm} (h : EiB c ρ wi ds ρ1) (I : Nat → List Sl) (acc : Nat → List PyData) (hI : I 0 = ρ1) (hacc : acc 0 = []) (hsz : ds.length ≤ 100000)
    (hvs : ∀ i, i ≤ ds.length → ∀ j ∈ vs, (I i)[j]? = some .no)
    (turn : ∀ (S : List Addr) (B : Hp) (i : Nat) (d : Itm), ds[i]? = some d → ∃ (b : Bool) (ρa ρb : List Sl), Eg (c.at S B) g d (I i) ρa vs ∧ Et (c.at S B) ρa tt b ρb ∧
      (b = true → ∃ d' ρc, Ed (c.at S B) ρb te d' ρc ∧ acc (i + 1) = acc i ++ [d'] ∧ ∀ T H σ, Wd (c.at S B) T H σ ρc → Wd (c.at S B) T H (L2.wipe σ vs) (I (i + 1))) ∧
      (b = false → acc (i + 1) = acc i ∧ ∀ T H σ, Wd (c.at S B) T H σ ρb → Wd (c.at S B) T H (L2.wipe σ vs) (I (i + 1)))) : EdL c ρ (tLc wi g tt te vs) (acc ds.length) (I ds.length) := fun T σ H W Q q =>
  h T σ H W _ fun J H1 T1 W1 hw D hD => by
    have hB := W1.freshB hD
    have hsub := W1.sub
    have nS : D ∉ c.S0 := fun m => W1.fresh hD (List.mem_append_left _ m)
    have nM : D ∉ c.M := fun m => nS (hsub D m)
    obtain ⟨_, hDn, mo0, Wh⟩ := el_new W1 (.nil) hD
    have hvs0 := hvs 0 (Nat.zero_le _)
    rw [hI] at hvs0
    have eP : ∀ {i : Nat} {H2 : Hp}, Wd (c.hidden D) (T1 ++ T) H2 (L2.wipe σ vs) (I i) → D ∉ hid c (I i) := fun W2 => W2.notin nS hsub
    have accl : ∀ i, i ≤ ds.length → (acc i).length ≤ i := fun i => by
      induction i with
      | zero => intro _; rw [hacc]; exact Nat.le_refl _
      | succ i ih =>
        intro hi
        obtain ⟨b, _, _, _, _, g3, g4⟩ := turn [] (fun _ => none) i _ (List.getElem?_eq_getElem (show i < ds.length by omega))
        have := ih (by omega)
        cases b with
        | true =>
          obtain ⟨d', _, _, e, _⟩ := g3 rfl
          rw [e, List.length_append]; show _ + 1 ≤ _; omega
        | false => rw [(g4 rfl).1]; omega
    refine ⟨fun i m H2 => i + m = ds.length ∧ Wd (c.hidden D) (T1 ++ T) H2 (L2.wipe σ vs) (I i) ∧ MoOk c.K (D :: hid c (I i)) H2 D (.lst (acc i)), ⟨ds.length, by omega, by rw [hI]; exact Wh.wipe hvs0, by rw [hI, hacc]; exact mo0⟩, fun i m H2 ⟨hm, W2, mo⟩ => ?_⟩
    by_cases hi : i < ds.length
    · obtain ⟨xs, hxs, dxs⟩ := mo
      have lx := dpa_length dxs
      have la := accl i (by omega)
      have W2a : Wd (c.at (D :: c.S0) (upd c.B D (.lst xs))) (T1 ++ T) H2 (L2.wipe σ vs) (I i) := W2.pin hxs hB hsub nS
      have W2b : Wd (c.at (D :: c.S0) (upd c.B D (.lst xs))) (xs.zip (acc i) ++ (T1 ++ T)) H2 (L2.wipe σ vs) (I i) := W2a.pushAll dxs
      have W2c : Wd (c.at (D :: c.S0) (upd c.B D (.lst xs))) (T1 ++ (xs.zip (acc i) ++ T)) H2 (L2.wipe σ vs) (I i) := W2b.tmps fun p hp => by
        simp only [List.mem_append] at hp ⊢
        rcases hp with hp | hp | hp
        · exact .inr (.inl hp)
        · exact .inl hp
        · exact .inr (.inr hp)
      have hwk := hw (c.at (D :: c.S0) (upd c.B D (.lst xs))) _ _ _ _ rfl rfl (fun b o e => by show upd c.B D _ b = some o; rw [upd_ne (ne_of_none e hB)]; exact e) W2c
      refine .inr ⟨(hwk.1 i hi).1, fun H3 => Wd (c.hidden D) (T1 ++ T) H3 (L2.wipe σ vs) (I (i + 1)) ∧ MoOk c.K (D :: hid c (I (i + 1))) H3 D (.lst (acc (i + 1))), fun H3 h3 => ⟨m - 1, by omega, by omega, h3.1, h3.2⟩, fun x H3 hy => ?_⟩
      obtain ⟨d, hd, W3⟩ := (hwk.1 i hi).2 x H3 hy
      obtain ⟨b, ρa, ρb, g1, g2, g3, g4⟩ := turn (D :: c.S0) (upd c.B D (.lst xs)) i d hd
      refine g1 _ _ _ _ W3 _ fun σ2 H4 W4 ew => ⟨by rw [ew, wipe_wipe], g2 _ σ2 H4 W4 _ fun H5 W5 => ?_⟩
      rw [wipe_wipe] at ew
      cases b with
      | true =>
        rw [if_pos rfl]
        obtain ⟨d', ρc, g5, ea, wk⟩ := g3 rfl
        refine g5 _ σ2 H5 W5 _ fun y H6 W6 => ?_
        have W7 := wk _ _ _ W6
        rw [ew] at W7
        obtain ⟨hx6, W8⟩ := W7.unpin hB nM
        have hn8 := W8.notin nS hsub
        refine ⟨xs, hx6, Nat.lt_of_lt_of_le (show xs.length < 100000 by omega) (by decide), ?_, ?_⟩
        · refine (W8.updHid hB hn8).tmps fun p hp => List.mem_cons_of_mem _ ?_
          simp only [List.mem_append] at hp ⊢
          rcases hp with hp | hp
          · exact .inl hp
          · exact .inr (.inr hp)
        · refine ⟨xs ++ [y], upd_same, ?_⟩
          rw [ea]
          have W9 := W8.updHid (u := .lst (xs ++ [y])) hB hn8
          have a1 : DzAll c.K (hide (hid (c.hidden D) (I (i + 1))) (upd H6 D (.lst (xs ++ [y])))) xs (acc i) := Wd.allOf (T := (y, d') :: (T1 ++ T)) lx (W9.tmps fun p hp => by
            simp only [List.mem_append, List.mem_cons] at hp ⊢
            rcases hp with hp | hp | hp | hp
            · exact .inr (.inr (.inl hp))
            · exact .inl hp
            · exact .inr (.inl hp)
            · exact .inr (.inr (.inr hp)))
          exact dpa_append a1 (.cons (W9.tmp (y, d') (List.mem_cons_self ..)) .nil)
      | false =>
        rw [if_neg (by decide)]
        obtain ⟨ea, wk⟩ := g4 rfl
        have W7 := wk _ _ _ W5
        rw [ew] at W7
        obtain ⟨hx6, W8⟩ := W7.unpin hB nM
        refine ⟨W8.tmps fun p hp => ?_, xs, hx6, ?_⟩
        · simp only [List.mem_append] at hp ⊢
          rcases hp with hp | hp
          · exact .inl hp
          · exact .inr (.inr hp)
        · rw [ea]
          exact Wd.allOf (T := T1 ++ T) lx (W8.tmps fun p hp => by
            simp only [List.mem_append, List.mem_cons] at hp ⊢
            rcases hp with hp | hp | hp
            · exact .inr (.inl hp)
            · exact .inl hp
            · exact .inr (.inr hp))
    · have ei : i = ds.length := by omega
      subst ei
      refine .inl ⟨(hw (c.hidden D) T (L2.wipe σ vs) H2 (I ds.length) rfl rfl (fun _ _ e => e) W2).2 _ (Nat.le_refl _), ?_⟩
      have W4 : Wd (c.hidden D) T H2 (L2.wipe σ vs) (I ds.length) := W2.tmps fun p hp => List.mem_append_right _ hp
      exact q D H2 hB (eP W2) mo (W4.unwipe (hvs _ (Nat.le_refl _)))
theorem el_lcPB {α : Type} {wi : TI} {g : TG} {tt : TT} {vs : List Nat} (xs : List α) (ea : α → Itm) (p : α → Bool) (eb : α → PyData) (h : EiB c ρ wi (xs.map ea) ρ1) (hsz : xs.length ≤ 100000) (hvs : ∀ j ∈ vs, ρ1[j]? = some .no)
    (turn : ∀ (S : List Addr) (B : Hp) (x : α), x ∈ xs → ∃ ρa, Nz.wipeS ρa vs = ρ1 ∧ Eg (c.at S B) g (ea x) ρ1 ρa vs ∧ Et (c.at S B) ρa tt (p x) ρa ∧ (p x = true → Ed (c.at S B) ρa te (eb x) ρa)) :
    EdL c ρ (tLc wi g tt te vs) ((xs.filter p).map eb) ρ1 := by
  have key := el_lcB (c := c) (tt := tt) (te := te) (vs := vs) h (fun _ => ρ1) (fun i => ((xs.take i).filter p).map eb) rfl (by simp) (by rw [List.length_map]; exact hsz) (fun _ _ => hvs) (fun S B i d hd => by
    rw [List.getElem?_map] at hd
    cases hx : xs[i]? with
    | none => rw [hx] at hd; cases hd
    | some x =>
      rw [hx] at hd
      have hd : ea x = d := Option.some.inj hd
      subst hd
      obtain ⟨ρa, hw, g1, g2, g3⟩ := turn S B x (List.mem_of_getElem? hx)
      refine ⟨p x, ρa, ρa, g1, g2, fun hp => ⟨eb x, ρa, g3 hp, ?_, fun T H σ W => hw ▸ W.wipeS vs⟩, fun hp => ⟨?_, fun T H σ W => hw ▸ W.wipeS vs⟩⟩
      · rw [List.take_add_one, hx]
        simp [hp]
      · rw [List.take_add_one, hx]
        simp [hp])
  have e : (List.map eb (List.filter p (List.take (List.map ea xs).length xs))) = (xs.filter p).map eb := by
    rw [List.length_map, List.take_length]
  rw [e] at key
  exact key
/-- all items -/
theorem el_lcAB {α : Type} {wi : TI} {g : TG} {vs : List Nat} (xs : List α) (ea : α → Itm) (eb : α → PyData) (h : EiB c ρ wi (xs.map ea) ρ1) (hsz : xs.length ≤ 100000) (hvs : ∀ j ∈ vs, ρ1[j]? = some .no)
    (turn : ∀ (S : List Addr) (B : Hp) (x : α), x ∈ xs → ∃ ρa, Nz.wipeS ρa vs = ρ1 ∧ Eg (c.at S B) g (ea x) ρ1 ρa vs ∧ Ed (c.at S B) ρa te (eb x) ρa) :
    EdL c ρ (tLc wi g tYes te vs) (xs.map eb) ρ1 := by
  have key := el_lcPB (c := c) (tt := tYes) (te := te) (vs := vs) xs ea (fun _ => true) eb h hsz hvs (fun S B x hx => by
    obtain ⟨ρa, hw, g1, g2⟩ := turn S B x hx
    exact ⟨ρa, hw, g1, fun T σ H W Q q => q H W, fun _ => g2⟩)
  rw [List.filter_eq_self.mpr (fun _ _ => rfl)] at key
  exact key

/-- what c hides, in another order -/
theorem Wd.reS {S S' : List Addr} {B : Hp} (W : Wd (c.at S B) T H σ ρ) (h : ∀ x, x ∈ S ↔ x ∈ S') : Wd (c.at S' B) T H σ ρ := by
  have e : ∀ b, b ∈ hid (c.at S' B) ρ → b ∈ hid (c.at S B) ρ := fun b m => by
    rcases List.mem_append.mp m with m | m
    · exact List.mem_append_left _ ((h b).mpr m)
    · exact List.mem_append_right _ m
  have e2 : Ex (hide (hid (c.at S B) ρ) H) (hide (hid (c.at S' B) ρ) H) := hide_mono fun a o n q => ⟨fun m => n (e a m), q⟩
  refine ⟨W.len, W.keep, fun a m => (h a).mp (W.sub a m), fun a m => W.dom a ((h a).mpr m), fun p hp => dpm e2 (W.tmp p hp), W.inj, fun i a o q m => W.ap i a o q ((h a).mpr m), fun i s q => ?_⟩
  have := slOk_mono (H' := H) e2 (fun _ _ => rfl) (W.ok i s q)
  cases s <;> exact this
/-- a slot's own thing is hidden, the slot known as a mere value -/
theorem Wd.slotHide {a : Addr} {o : MO} {i : Nat} (W : Wd c T H σ ρ) (hi : ρ[i]? = some (.mu true a o)) : Wd (c.hidden a) T H σ (ρ.set i (.vl (.ref a))) ∧ a ∉ hid c (ρ.set i (.vl (.ref a))) := by
  have il : i < ρ.length := (List.getElem?_eq_some_iff.mp hi).1
  have r : ∀ {j : Nat} {m : Bool} {b : Addr} {u : MO}, (ρ.set i (.vl (.ref a)))[j]? = some (.mu m b u) → i ≠ j ∧ ρ[j]? = some (.mu m b u) := fun {j m b u} h => by
    rcases get_set h with ⟨_, _, e⟩ | e
    · cases e
    · exact e
  have na : ∀ {j : Nat} {m : Bool} {b : Addr} {u : MO}, (ρ.set i (.vl (.ref a)))[j]? = some (.mu m b u) → b ≠ a := fun {j m b u} h q => by
    subst q
    obtain ⟨n, e⟩ := r h
    exact n (W.inj i j _ _ _ _ _ hi e)
  have nS : a ∉ c.S0 := W.ap i a o hi
  have nin : a ∉ hid c (ρ.set i (.vl (.ref a))) := fun m => by
    rcases List.mem_append.mp m with m | m
    · exact nS m
    · obtain ⟨j, l, u, e⟩ := mem_muts.mp m
      exact na e rfl
  have sub : ∀ b, b ∈ hid (c.hidden a) (ρ.set i (.vl (.ref a))) → b ∈ hid c ρ := fun b m => by
    rcases List.mem_append.mp m with m | m
    · rcases List.mem_cons.mp m with m | m
      · rw [m]; exact List.mem_append_right _ (mem_muts.mpr ⟨i, _, _, hi⟩)
      · exact List.mem_append_left _ m
    · obtain ⟨j, l, u, e⟩ := mem_muts.mp m
      exact List.mem_append_right _ (mem_muts.mpr ⟨j, l, u, (r e).2⟩)
  have e2 : Ex (hide (hid c ρ) H) (hide (hid (c.hidden a) (ρ.set i (.vl (.ref a)))) H) := hide_mono fun b v n h => ⟨fun m => n (sub b m), h⟩
  refine ⟨⟨by rw [List.length_set]; exact W.len, W.keep, fun b m => List.mem_cons_of_mem _ (W.sub b m), fun b m => ?_, fun q hq => dpm e2 (W.tmp q hq), fun j k l m b u u' h1 h2 => W.inj j k l m b u u' (r h1).2 (r h2).2, fun j b u h m => ?_, fun j s h => ?_⟩, nin⟩
  · rcases List.mem_cons.mp m with m | m
    · rw [m]; exact (W.ok i _ hi).2.2.there
    · exact W.dom b m
  · rcases List.mem_cons.mp m with m | m
    · exact na h m
    · exact W.ap j b u (r h).2 m
  · rcases get_set h with ⟨q, _, e⟩ | ⟨q, e⟩
    · subst e; subst q; exact (W.ok i _ hi).1
    · have := slOk_mono (c := c) (H' := H) e2 (fun _ _ => rfl) (W.ok j s e)
      cases s <;> exact this
theorem kvd_ints {K : PySem.W.Frag} {H : Hp} : ∀ {kvs : List (Int × Int)} {xs : List (Key × V)}, KVd K H xs (eD PyData.int kvs) → xs = kvs.map fun p => (Sum.inl p.1, V.int p.2)
  | [], _, h => by cases h; rfl
  | p :: kvs, _, h => by
    cases h with
    | cons a t =>
      rename_i x xs
      obtain ⟨x1, x2⟩ := x
      obtain ⟨a1, a2⟩ := a
      dsimp only at a1 a2
      rw [a1, dp_int a2, kvd_ints t]; rfl
theorem set_of {α : Type} {l : List α} {i : Nat} {x : α} (h : l[i]? = some x) : l.set i x = l := by
  apply List.ext_getElem?
  intro k
  by_cases q : i = k
  · subst q
    rw [List.getElem?_set_self (List.getElem?_eq_some_iff.mp h).1, h]
  · rw [List.getElem?_set_ne q]
theorem kvd_of {K : PySem.W.Frag} {H : Hp} : ∀ {kvs : List (Int × Int)}, KVd K H (kvs.map fun p => (Sum.inl p.1, V.int p.2)) (eD PyData.int kvs)
  | [] => .nil
  | p :: kvs => .cons ⟨rfl, .int _⟩ kvd_of
/-- [.. for k, v in d.items()], of a dict of ints with int keys -/
theorem el_lcDI {β : Type} {enc : β → PyData} {fb : Int × Int → β} {i : Nat} {a : Addr} {kvs : List (Int × Int)} {g : TG} {vs : List Nat} (ha : ρ[i]? = some (.mu true a (.dK (eD PyData.int kvs)))) (hsz : kvs.length ≤ 100000) (hvs : ∀ v, ∀ j ∈ vs, (ρ.set i (.vl v))[j]? = some .no)
    (turn : ∀ (S : List Addr) (B : Hp) (x : Int × Int), x ∈ kvs → ∃ ρa, Nz.wipeS ρa vs = ρ.set i (.vl (.ref a)) ∧ Eg (c.at S B) g (.soft [.int x.1, .int x.2]) (ρ.set i (.vl (.ref a))) ρa vs ∧ Ed (c.at S B) ρa te (enc (fb x)) ρa) :
    EdL c ρ (tLockE (tLc (iItems (tVar i)) g tYes te vs)) ((kvs.map fb).map enc) ρ := fun T σ H W Q q => by
  obtain ⟨h1, hB0, xs, e3, e4⟩ := W.ok i _ ha
  rw [if_pos rfl] at hB0
  have ex := kvd_ints e4
  subst ex
  have nS : a ∉ c.S0 := W.ap i a _ ha
  have nM : a ∉ c.M := fun m => nS (W.sub a m)
  refine ⟨a, _, e3, trivial, fun od => ?_⟩
  obtain ⟨W0, n0⟩ := W.slotHide ha
  have W1 := (W0.updHid (u := .frz od (.dK (kvs.map fun p => (Sum.inl p.1, V.int p.2)))) hB0 n0).pin upd_same hB0 W.sub nS
  have key := el_lcAB (c := c.at (a :: c.S0) (upd c.B a (.frz od (.dK (kvs.map fun p => (Sum.inl p.1, V.int p.2)))))) (ρ := ρ.set i (.vl (.ref a))) (ρ1 := ρ.set i (.vl (.ref a))) (wi := iItems (tVar i)) (g := g) (te := te) (vs := vs) kvs (fun p => .soft [.int p.1, .int p.2]) (fun p => enc (fb p)) (fun T2 σ2 H2 W2 R q2 => ?_) hsz (hvs _) (fun S B x hx => turn S B x hx) T σ _ W1
  · refine key _ fun p H' pB pn pm pW => ?_
    have Ha : H' a = some (.frz od (.dK (kvs.map fun p => (Sum.inl p.1, V.int p.2)))) := pW.keep a _ nM upd_same
    have hpa : p ≠ a := fun e => by
      subst e
      have pB : upd c.B p _ p = none := pB
      rw [upd_same] at pB; cases pB
    have pB' : c.B p = none := by
      have pB : upd c.B a _ p = none := pB
      rw [upd_ne hpa] at pB; exact pB
    have pW2 : Wd ((c.hidden p).at (a :: (c.hidden p).S0) (upd (c.hidden p).B a (.frz od (.dK (kvs.map fun p => (Sum.inl p.1, V.int p.2)))))) T H' σ (ρ.set i (.vl (.ref a))) := Wd.reS (S := p :: a :: c.S0) pW (fun x => by simp only [List.mem_cons]; exact ⟨fun h => h.elim (fun e => .inr (.inl e)) (fun h => h.elim .inl (fun h => .inr (.inr h))), fun h => h.elim (fun e => .inr (.inl e)) (fun h => h.elim .inl (fun h => .inr (.inr h)))⟩)
    obtain ⟨_, pW3⟩ := pW2.unpin (c := c.hidden p) hB0 nM
    have nh : a ∉ hid (c.hidden p) (ρ.set i (.vl (.ref a))) := fun m => by
      rcases List.mem_append.mp m with m | m
      · rcases List.mem_cons.mp m with m | m
        · exact hpa m.symm
        · exact nS m
      · exact n0 (List.mem_append_right _ m)
    have pW4 := pW3.updHid (c := c.hidden p) (u := .dK (kvs.map fun p => (Sum.inl p.1, V.int p.2))) hB0 nh
    have pW5 := pW4.setM (c := c.hidden p) (l := true) (o := .dK (eD PyData.int kvs)) (fun b m => List.mem_cons_of_mem _ (W.sub b m)) i (by rw [if_pos rfl]; exact hB0) nh ⟨_, upd_same, kvd_of⟩
    have σi : σ.set i (some (.ref a)) = σ := set_of h1
    have ρi : (ρ.set i (.vl (.ref a))).set i (.mu true a (.dK (eD PyData.int kvs))) = ρ := by rw [List.set_set]; exact set_of ha
    rw [σi, ρi] at pW5
    refine ⟨Ha, q p _ pB' (fun m => ?_) ?_ pW5⟩
    · rcases List.mem_append.mp m with m | m
      · exact pn (List.mem_append_left _ (List.mem_cons_of_mem _ m))
      · obtain ⟨j, l, u, e⟩ := mem_muts.mp m
        by_cases hij : i = j
        · subst hij; rw [ha] at e; cases e; exact hpa rfl
        · exact pn (List.mem_append_right _ (mem_muts.mpr ⟨j, l, u, by rw [List.getElem?_set_ne hij]; exact e⟩))
    · have pm : MoOk c.K (p :: hid (c.at (a :: c.S0) (upd c.B a (.frz od (.dK (kvs.map fun p => (Sum.inl p.1, V.int p.2)))))) (ρ.set i (.vl (.ref a)))) H' p (.lst ((kvs.map fb).map enc)) := by rw [List.map_map]; exact pm
      refine MoOk.mono (hide_mono fun b o n h => ⟨fun m => ?_, ?_⟩) (upd_ne hpa) pm
      · rcases List.mem_cons.mp m with m | m
        · exact n (by rw [m]; exact List.mem_cons_self ..)
        · rcases List.mem_append.mp m with m | m
          · exact n (List.mem_cons_of_mem _ (List.mem_append_left _ (List.mem_cons_of_mem _ m)))
          · obtain ⟨j, l, u, e⟩ := mem_muts.mp m
            by_cases hij : i = j
            · subst hij; rw [ha] at e; cases e
              exact n (List.mem_cons_of_mem _ (List.mem_append_left _ (List.mem_cons_self ..)))
            · exact n (List.mem_cons_of_mem _ (List.mem_append_right _ (mem_muts.mpr ⟨j, l, u, by rw [List.getElem?_set_ne hij]; exact e⟩)))
      · rw [upd_ne (fun e => by subst e; exact n (List.mem_cons_of_mem _ (List.mem_append_left _ (List.mem_cons_self ..))))]; exact h
  · have hv : (ρ.set i (.vl (.ref a)))[i]? = some (.vl (.ref a)) := List.getElem?_set_self (List.getElem?_eq_some_iff.mp ha).1
    refine ⟨.ref a, W2.ok i _ hv, a, od, _, rfl, W2.keep a _ nM upd_same, q2 _ H2 [] W2 ?_⟩
    rintro c' T' σ' H3 ρ' hK hM hB W'
    have Ha : H3 a = some (.frz od (.dK (kvs.map fun p => (Sum.inl p.1, V.int p.2)))) := W'.keep a _ (by rw [hM]; exact nM) (hB a _ upd_same)
    rw [List.length_map]
    refine ⟨fun j hj => ⟨⟨Ha, by rw [List.length_map]; exact hj⟩, fun x H4 hy => ?_⟩, fun j hj => ⟨Ha, by rw [List.length_map]; exact hj⟩⟩
    obtain ⟨P, k, v, hk, rfl, hP, rfl⟩ := hy
    rw [List.getElem?_map, List.getElem?_eq_getElem hj] at hk
    cases hk
    refine ⟨.soft [.int kvs[j].1, .int kvs[j].2], by rw [List.getElem?_map, List.getElem?_eq_getElem hj]; rfl, P, [V.int _, V.int _], rfl, .inl (.inl upd_same), rfl, ?_⟩
    exact ((W'.grow (Ex.new (o := .tup [V.int kvs[j].1, V.int kvs[j].2]) hP)).push (.int _)).push (.int _)

/-! a new dict by a comprehension, of bools -/
def EdDc (c : Cz) (ρ : List Sl) (te : TE) (ks : List (Key × PyData)) (ρ' : List Sl) : Prop := ∀ (T : Tm) (σ : L2.St) (H : Hp), Wd c T H σ ρ → ∀ Q : VK,
  (∀ p H', c.B p = none → p ∉ hid c ρ' → MoOk c.K (p :: hid c ρ') H' p (.dK ks) → Wd (c.hidden p) T H' σ ρ' → Q (.ref p) H') → te σ H Q
theorem dc_new {p : Addr} (W : Wd c T H σ ρ) (hp : H p = none) : c.B p = none ∧ p ∉ hid c ρ ∧ Wd (c.hidden p) T (upd H p (.dK [])) σ ρ := ⟨W.freshB hp, W.fresh hp, W.hideNew hp⟩
theorem el_dcA {α : Type} {wi : TI} {g : TG} {vs : List Nat} {xs : List α} {ea : α → Itm} {fk : α → Int} {fv : α → Bool} (h : Ei c ρ wi (xs.map ea) ρ1) (hsz : xs.length ≤ 100000) (hvs : ∀ j ∈ vs, ρ1[j]? = some .no)
    (turn : ∀ (S : List Addr) (B : Hp) (x : α), x ∈ xs → ∃ ρa, Nz.wipeS ρa vs = ρ1 ∧ Eg (c.at S B) g (ea x) ρ1 ρa vs ∧ Ed (c.at S B) ρa tk (.int (fk x)) ρa ∧ Ed (c.at S B) ρa tv (.bool (fv x)) ρa) :
    EdDc c ρ (tDc wi g tYes tk tv vs) (xs.foldl (fun l x => putP l (Sum.inl (fk x)) (.bool (fv x))) []) ρ1 := fun T σ H W Q q =>
  h T σ H W _ fun J H1 T1 W1 hw D hD => by
    have hB := W1.freshB hD
    have hsub := W1.sub
    have nS : D ∉ c.S0 := fun m => W1.fresh hD (List.mem_append_left _ m)
    have nM : D ∉ c.M := fun m => nS (hsub D m)
    obtain ⟨_, hDn, Wh⟩ := dc_new W1 hD
    let acc : Nat → List (Key × PyData) := fun i => (xs.take i).foldl (fun l x => putP l (Sum.inl (fk x)) (.bool (fv x))) []
    have hacc : ∀ i (x : α), xs[i]? = some x → acc (i + 1) = putP (acc i) (Sum.inl (fk x)) (.bool (fv x)) := fun i x hx => by
      show (xs.take (i + 1)).foldl _ _ = _
      rw [List.take_add_one, hx, List.foldl_append]; rfl
    have accl : ∀ i, i ≤ xs.length → (acc i).length ≤ i := fun i => by
      induction i with
      | zero => intro _; exact Nat.le_refl _
      | succ i ih =>
        intro hi
        rw [hacc i _ (List.getElem?_eq_getElem (show i < xs.length by omega))]
        have := putP_len (acc i) (Sum.inl (fk xs[i])) (PyData.bool (fv xs[i]))
        have := ih (by omega)
        omega
    have eP : ∀ {H2 : Hp}, Wd (c.hidden D) (T1 ++ T) H2 (L2.wipe σ vs) ρ1 → D ∉ hid c ρ1 := fun W2 => W2.notin nS hsub
    refine ⟨fun i m H2 => i + m = xs.length ∧ Wd (c.hidden D) (T1 ++ T) H2 (L2.wipe σ vs) ρ1 ∧ ∃ zs, H2 D = some (.dK zs) ∧ ∀ K H, KVd K H zs (acc i), ⟨xs.length, by omega, Wh.wipe hvs, [], upd_same, fun _ _ => .nil⟩, fun i m H2 ⟨hm, W2, zs, hzs, kz⟩ => ?_⟩
    by_cases hi : i < xs.length
    · have lz := kvd_len (kz c.K H2)
      have la := accl i (by omega)
      have W2a : Wd (c.at (D :: c.S0) (upd c.B D (.dK zs))) (T1 ++ T) H2 (L2.wipe σ vs) ρ1 := W2.pin hzs hB hsub nS
      have hwk := hw (c.at (D :: c.S0) (upd c.B D (.dK zs))) _ _ _ _ rfl W2a
      have hi' : i < (xs.map ea).length := by rw [List.length_map]; exact hi
      refine .inr ⟨(hwk.1 i hi').1, fun H3 => Wd (c.hidden D) (T1 ++ T) H3 (L2.wipe σ vs) ρ1 ∧ ∃ zs, H3 D = some (.dK zs) ∧ ∀ K H, KVd K H zs (acc (i + 1)), fun H3 h3 => ⟨m - 1, by omega, by omega, h3.1, h3.2⟩, fun x H3 hy => ?_⟩
      obtain ⟨d, hd, W3⟩ := (hwk.1 i hi').2 x H3 hy
      rw [List.getElem?_map, List.getElem?_eq_getElem hi] at hd
      have hd : ea xs[i] = d := Option.some.inj hd
      subst hd
      obtain ⟨ρa, hwp, g1, g2, g3⟩ := turn (D :: c.S0) (upd c.B D (.dK zs)) xs[i] (List.getElem_mem hi)
      refine g1 _ _ _ _ W3 _ fun σ2 H4 W4 ew => ⟨by rw [ew, wipe_wipe], ?_⟩
      rw [wipe_wipe] at ew
      dsimp only [tYes]
      rw [if_pos rfl]
      refine g2 _ σ2 H4 W4 _ fun y H5 W5 => g3 _ σ2 H5 W5 _ fun z H6 W6 => ?_
      have W7 := (hwp ▸ W6.wipeS vs : Wd _ _ _ _ ρ1)
      rw [ew] at W7
      have ey := dp_int W6.pop.dp
      have ez := dp_bl W6.dp
      obtain ⟨hx6, W8⟩ := W7.unpin hB nM
      have hn8 := W8.notin nS hsub
      refine ⟨zs, Sum.inl (fk xs[i]), ey, hx6, Nat.lt_of_lt_of_le (show zs.length < 100000 by omega) (by decide), (W8.updHid hB hn8).pop.pop, _, upd_same, fun K H => ?_⟩
      rw [hacc i _ (List.getElem?_eq_getElem hi), ez]
      exact kvd_put (kz K H) (.bl _)
    · have ei : i = xs.length := by omega
      subst ei
      refine .inl ⟨(hw (c.hidden D) T (L2.wipe σ vs) H2 ρ1 rfl W2).2 _ (by rw [List.length_map]; exact Nat.le_refl _), ?_⟩
      have W4 : Wd (c.hidden D) T H2 (L2.wipe σ vs) ρ1 := W2.tmps fun p hp => List.mem_append_right _ hp
      have e : acc xs.length = xs.foldl (fun l x => putP l (Sum.inl (fk x)) (.bool (fv x))) [] := by show (xs.take xs.length).foldl _ _ = _; rw [List.take_length]
      exact q D H2 hB (eP W2) ⟨zs, hzs, e ▸ kz _ _⟩ (W4.unwipe hvs)
def rLenDk : List V → Hp → VK → Prop := fun xs H Q => ∃ a kvs, xs = [V.ref a] ∧ H a = some (.dK kvs) ∧ Q (.int (kvs : List (Key × V)).length) H
theorem cr_lenDk {X : Cx} : CallR X (.builtin "len") rLenDk := call_lenD
theorem ed_lenDc {ks : List (Key × PyData)} (h : EdDc c ρ te ks ρ1) : Ed c ρ (tCB rLenDk (tCons te tNil)) (.int (ks.length : Int)) ρ1 := fun T σ H W Q q => h T σ H W _ fun p H1 pB pn pm pW => by
  obtain ⟨xs, e1, e2⟩ := pm
  refine ⟨p, xs, rfl, e1, ?_⟩
  rw [kvd_len e2]
  exact q _ H1 ((pW.unhide W.sub).push (.int _))
/-! two fors in one comprehension -/
theorem wipe_at {k : Nat} : ∀ {σ : L2.St} {ws : List Nat}, k ∈ ws → (L2.wipe σ ws)[k]? = (σ.map fun _ => (none : Option V))[k]?
  | σ, y :: ys, hm => by
    show ((L2.wipe σ ys).set y none)[k]? = _
    by_cases qq : y = k
    · subst qq
      rw [List.getElem?_set, L2.wipe_length, List.getElem?_map]
      simp
      by_cases hk : y < σ.length
      · simp [hk]
      · simp [hk]
    · rw [List.getElem?_set_ne qq]
      exact wipe_at (by
        rcases List.mem_cons.mp hm with hm | hm
        · exact absurd hm.symm qq
        · exact hm)
theorem wipe_in {σ : L2.St} {vs vs1 : List Nat} (h : ∀ j ∈ vs1, j ∈ vs) : L2.wipe (L2.wipe σ vs1) vs = L2.wipe σ vs := by
  apply List.ext_getElem?
  intro k
  by_cases m : k ∈ vs
  · rw [wipe_at m, wipe_at m, List.getElem?_map, List.getElem?_map]
    by_cases hk : k < σ.length
    · rw [List.getElem?_eq_getElem hk, List.getElem?_eq_getElem (by rw [L2.wipe_length]; exact hk)]; rfl
    · have h1 : (L2.wipe σ vs1)[k]? = none := List.getElem?_eq_none_iff.mpr (by rw [L2.wipe_length]; omega)
      have h2 : σ[k]? = none := List.getElem?_eq_none_iff.mpr (by omega)
      rw [h1, h2]
  · rw [wipe_get m, wipe_get m, wipe_get fun q => m (h k q)]
/-- a list of data that grows by one -/
theorem grow1 {D : Addr} {S : List Addr} {xs : List V} {y : V} {ds : List PyData} {d' : PyData} (hB : c.B D = none) (nM : D ∉ c.M) (nS : D ∉ c.S0) (hsub : ∀ a ∈ c.M, a ∈ c.S0) (lx : xs.length = ds.length)
    (W : Wd (c.at (D :: c.S0) (upd c.B D (.lst xs))) ((y, d') :: (xs.zip ds ++ T)) H σ ρ) : H D = some (.lst xs) ∧ Wd (c.hidden D) T (upd H D (.lst (xs ++ [y]))) σ ρ ∧ MoOk c.K (D :: hid c ρ) (upd H D (.lst (xs ++ [y]))) D (.lst (ds ++ [d'])) := by
  obtain ⟨hx6, W8⟩ := W.unpin hB nM
  have hn8 := W8.notin nS hsub
  have W9 := W8.updHid (u := .lst (xs ++ [y])) hB hn8
  refine ⟨hx6, W9.tmps fun p hp => List.mem_cons_of_mem _ (List.mem_append_right _ hp), xs ++ [y], upd_same, ?_⟩
  have a1 : DzAll c.K (hide (hid (c.hidden D) ρ) (upd H D (.lst (xs ++ [y])))) xs ds := Wd.allOf (T := (y, d') :: T) lx (W9.tmps fun p hp => by
    simp only [List.mem_append, List.mem_cons] at hp ⊢
    rcases hp with hp | hp | hp
    · exact .inr (.inl hp)
    · exact .inl hp
    · exact .inr (.inr hp))
  exact dpa_append a1 (.cons (W9.tmp (y, d') (List.mem_cons_self ..)) .nil)
theorem el_lc2A {α β γ : Type} {wi wi1 : TI} {g g1 : TG} {vs vs1 : List Nat} {xs : List α} {ea : α → Itm} {ys : α → List β} {eb : α → β → Itm} {enc : γ → PyData} {fb : α → β → γ} (h : Ei c ρ wi (xs.map ea) ρ1) (hsz : (xs.flatMap fun x => (ys x).map (fb x)).length ≤ 100000) (hvs : ∀ j ∈ vs, ρ1[j]? = some .no) (hv1 : ∀ j ∈ vs1, j ∈ vs)
    (turn : ∀ (S : List Addr) (B : Hp) (x : α), x ∈ xs → ∃ ρa, Nz.wipeS ρa vs = ρ1 ∧ (∀ j ∈ vs1, ρa[j]? = some .no) ∧ Eg (c.at S B) g (ea x) ρ1 ρa vs ∧ Ei (c.at S B) ρa wi1 ((ys x).map (eb x)) ρa ∧
      ∀ (S : List Addr) (B : Hp) (y : β), y ∈ ys x → ∃ ρb, Nz.wipeS ρb vs1 = ρa ∧ Eg (c.at S B) g1 (eb x y) ρa ρb vs1 ∧ Ed (c.at S B) ρb te (enc (fb x y)) ρb) :
    EdL c ρ (tLc2 wi g tYes wi1 g1 tYes te vs vs1) ((xs.flatMap fun x => (ys x).map (fb x)).map enc) ρ1 := fun T σ H W Q q =>
  h T σ H W _ fun J H1 T1 W1 hw D hD => by
    have hB := W1.freshB hD
    have hsub := W1.sub
    have nS : D ∉ c.S0 := fun m => W1.fresh hD (List.mem_append_left _ m)
    have nM : D ∉ c.M := fun m => nS (hsub D m)
    obtain ⟨_, hDn, mo0, Wh⟩ := el_new W1 (.nil) hD
    let acc : Nat → List PyData := fun i => ((xs.take i).flatMap fun x => (ys x).map (fb x)).map enc
    have hacc : ∀ i (x : α), xs[i]? = some x → acc (i + 1) = acc i ++ ((ys x).map (fb x)).map enc := fun i x hx => by
      show ((xs.take (i + 1)).flatMap fun x => (ys x).map (fb x)).map enc = _
      rw [List.take_add_one, hx, List.flatMap_append, List.map_append]
      simp [acc]
    have accl : ∀ i, (acc i).length ≤ 100000 := fun i => by
      refine Nat.le_trans ?_ hsz
      show (((xs.take i).flatMap fun x => (ys x).map (fb x)).map enc).length ≤ _
      have e : (xs.flatMap fun x => (ys x).map (fb x)).length = ((xs.take i).flatMap fun x => (ys x).map (fb x)).length + ((xs.drop i).flatMap fun x => (ys x).map (fb x)).length := by rw [← List.length_append, ← List.flatMap_append, List.take_append_drop]
      rw [List.length_map]; omega
    have eP : ∀ {H2 : Hp}, Wd (c.hidden D) (T1 ++ T) H2 (L2.wipe σ vs) ρ1 → D ∉ hid c ρ1 := fun W2 => W2.notin nS hsub
    refine ⟨fun i m H2 => i + m = xs.length ∧ Wd (c.hidden D) (T1 ++ T) H2 (L2.wipe σ vs) ρ1 ∧ MoOk c.K (D :: hid c ρ1) H2 D (.lst (acc i)), ⟨xs.length, by omega, Wh.wipe hvs, mo0⟩, fun i m H2 ⟨hm, W2, mo⟩ => ?_⟩
    by_cases hi : i < xs.length
    · obtain ⟨zs, hzs, dzs⟩ := mo
      have lx := dpa_length dzs
      have W2a : Wd (c.at (D :: c.S0) (upd c.B D (.lst zs))) (T1 ++ T) H2 (L2.wipe σ vs) ρ1 := W2.pin hzs hB hsub nS
      have W2c : Wd (c.at (D :: c.S0) (upd c.B D (.lst zs))) (T1 ++ (zs.zip (acc i) ++ T)) H2 (L2.wipe σ vs) ρ1 := (W2a.pushAll dzs).tmps fun p hp => by
        simp only [List.mem_append] at hp ⊢
        rcases hp with hp | hp | hp
        · exact .inr (.inl hp)
        · exact .inl hp
        · exact .inr (.inr hp)
      have hwk := hw (c.at (D :: c.S0) (upd c.B D (.lst zs))) _ _ _ _ rfl W2c
      have hi' : i < (xs.map ea).length := by rw [List.length_map]; exact hi
      refine .inr ⟨(hwk.1 i hi').1, fun H3 => Wd (c.hidden D) (T1 ++ T) H3 (L2.wipe σ vs) ρ1 ∧ MoOk c.K (D :: hid c ρ1) H3 D (.lst (acc (i + 1))), fun H3 h3 => ⟨m - 1, by omega, by omega, h3.1, h3.2⟩, fun x H3 hy => ?_⟩
      obtain ⟨d, hd, W3⟩ := (hwk.1 i hi').2 x H3 hy
      rw [List.getElem?_map, List.getElem?_eq_getElem hi] at hd
      have hd : ea xs[i] = d := Option.some.inj hd
      subst hd
      obtain ⟨ρa, hwp, hno, g1', g2, g3⟩ := turn (D :: c.S0) (upd c.B D (.lst zs)) xs[i] (List.getElem_mem hi)
      refine g1' _ _ _ _ W3 _ fun σ2 H4 W4 ew => ⟨by rw [ew, wipe_wipe], ?_⟩
      rw [wipe_wipe] at ew
      dsimp only [tYes]
      rw [if_pos rfl]
      refine g2 _ σ2 H4 W4 _ fun J1 H5 T2 W5 hw1 => ?_
      let in_ : Nat → List PyData := fun j => acc i ++ (((ys xs[i]).take j).map (fb xs[i])).map enc
      have inl : ∀ j, j ≤ (ys xs[i]).length → (in_ j).length ≤ (acc (i + 1)).length := fun j hj => by
        rw [hacc i _ (List.getElem?_eq_getElem hi)]
        show (_ ++ _ : List PyData).length ≤ (_ ++ _ : List PyData).length
        simp only [List.length_append, List.length_map, List.length_take]
        omega
      obtain ⟨hz5, W5u⟩ := W5.unpin hB nM
      have W5h : Wd (c.hidden D) (T2 ++ (T1 ++ T)) H5 (L2.wipe σ2 vs1) ρa := (W5u.tmps fun p hp => by
        simp only [List.mem_append] at hp ⊢
        rcases hp with hp | hp | hp
        · exact .inl hp
        · exact .inr (.inl hp)
        · exact .inr (.inr (.inr hp))).wipe hno
      have dz5 : DzAll c.K (hide (hid (c.hidden D) ρa) H5) zs (acc i) := Wd.allOf (T := T2 ++ (T1 ++ T)) lx (W5u.tmps fun p hp => by
        simp only [List.mem_append] at hp ⊢
        rcases hp with hp | hp | hp | hp
        · exact .inr (.inr (.inl hp))
        · exact .inl hp
        · exact .inr (.inl hp)
        · exact .inr (.inr (.inr hp)))
      refine ⟨fun j k H6 => j + k = (ys xs[i]).length ∧ Wd (c.hidden D) (T2 ++ (T1 ++ T)) H6 (L2.wipe σ2 vs1) ρa ∧ MoOk c.K (D :: hid c ρa) H6 D (.lst (in_ j)), ⟨(ys xs[i]).length, by omega, W5h, zs, hz5, by show DzAll _ _ _ (acc i ++ []); rw [List.append_nil]; exact dz5⟩, fun j k H6 ⟨hk, W6, mo6⟩ => ?_⟩
      by_cases hj : j < (ys xs[i]).length
      · obtain ⟨us, hus, dus⟩ := mo6
        have lu := dpa_length dus
        have lj := inl j (by omega)
        have lj1 := inl (j + 1) (by omega)
        have W6a : Wd (c.at (D :: c.S0) (upd c.B D (.lst us))) (T2 ++ (T1 ++ T)) H6 (L2.wipe σ2 vs1) ρa := W6.pin hus hB hsub nS
        have W6c : Wd (c.at (D :: c.S0) (upd c.B D (.lst us))) (T2 ++ (us.zip (in_ j) ++ (T1 ++ T))) H6 (L2.wipe σ2 vs1) ρa := (W6a.pushAll dus).tmps fun p hp => by
          simp only [List.mem_append] at hp ⊢
          rcases hp with hp | hp | hp
          · exact .inr (.inl hp)
          · exact .inl hp
          · exact .inr (.inr hp)
        have hwk1 := hw1 (c.at (D :: c.S0) (upd c.B D (.lst us))) _ _ _ _ rfl W6c
        have hj' : j < ((ys xs[i]).map (eb xs[i])).length := by rw [List.length_map]; exact hj
        refine .inr ⟨(hwk1.1 j hj').1, fun H7 => Wd (c.hidden D) (T2 ++ (T1 ++ T)) H7 (L2.wipe σ2 vs1) ρa ∧ MoOk c.K (D :: hid c ρa) H7 D (.lst (in_ (j + 1))), fun H7 h7 => ⟨k - 1, by omega, by omega, h7.1, h7.2⟩, fun x H7 hy => ?_⟩
        obtain ⟨d, hd, W7⟩ := (hwk1.1 j hj').2 x H7 hy
        rw [List.getElem?_map, List.getElem?_eq_getElem hj] at hd
        have hd : eb xs[i] (ys xs[i])[j] = d := Option.some.inj hd
        subst hd
        obtain ⟨ρb, hwp1, k1, k2⟩ := g3 (D :: c.S0) (upd c.B D (.lst us)) (ys xs[i])[j] (List.getElem_mem hj)
        refine k1 _ _ _ _ W7 _ fun σ3 H8 W8 ew1 => ⟨by rw [ew1, wipe_wipe], ?_⟩
        rw [wipe_wipe] at ew1
        dsimp only [tYes]
        rw [if_pos rfl]
        refine k2 _ σ3 H8 W8 _ fun y H9 W9 => ?_
        have W10 := (hwp1 ▸ W9.wipeS vs1 : Wd _ _ _ _ ρa)
        rw [ew1] at W10
        have e1 : in_ (j + 1) = in_ j ++ [enc (fb xs[i] (ys xs[i])[j])] := by
          show acc i ++ (((ys xs[i]).take (j + 1)).map (fb xs[i])).map enc = _
          rw [List.take_add_one, List.getElem?_eq_getElem hj, List.map_append, List.map_append, ← List.append_assoc]; rfl
        obtain ⟨h9, W11, mo11⟩ := grow1 (S := c.S0) (T := T2 ++ (T1 ++ T)) hB nM nS hsub lu (W10.tmps fun p hp => by
          simp only [List.mem_append, List.mem_cons] at hp ⊢
          rcases hp with hp | hp | hp | hp | hp
          · exact .inl hp
          · exact .inr (.inr (.inl hp))
          · exact .inr (.inl hp)
          · exact .inr (.inr (.inr (.inl hp)))
          · exact .inr (.inr (.inr (.inr hp))))
        have := accl (i + 1)
        exact ⟨us, h9, Nat.lt_of_lt_of_le (show us.length < 100001 by omega) (by decide), W11, e1 ▸ mo11⟩
      · have ej : j = (ys xs[i]).length := by omega
        subst ej
        refine .inl ⟨(hw1 (c.hidden D) (T1 ++ T) (L2.wipe σ2 vs1) H6 ρa rfl W6).2 _ (by rw [List.length_map]; exact Nat.le_refl _), ?_⟩
        have W7 := (hwp ▸ W6.wipeS vs : Wd _ _ _ _ ρ1)
        rw [wipe_in hv1, ew] at W7
        obtain ⟨us, hus, dus⟩ := mo6
        have e3 : in_ (ys xs[i]).length = acc (i + 1) := by
          rw [hacc i _ (List.getElem?_eq_getElem hi)]
          show acc i ++ (((ys xs[i]).take (ys xs[i]).length).map (fb xs[i])).map enc = _
          rw [List.take_length]
        have a2 : Wd (c.hidden D) (us.zip (in_ (ys xs[i]).length) ++ (T2 ++ (T1 ++ T))) H6 (L2.wipe σ2 vs1) ρa := W6.pushAll dus
        have W8 := (hwp ▸ a2.wipeS vs : Wd _ _ _ _ ρ1)
        rw [wipe_in hv1, ew] at W8
        exact ⟨W7.tmps fun p hp => List.mem_append_right _ hp, us, hus, e3 ▸ Wd.allOf (dpa_length dus) W8⟩
    · have ei : i = xs.length := by omega
      subst ei
      refine .inl ⟨(hw (c.hidden D) T (L2.wipe σ vs) H2 ρ1 rfl W2).2 _ (by rw [List.length_map]; exact Nat.le_refl _), ?_⟩
      have W4 : Wd (c.hidden D) T H2 (L2.wipe σ vs) ρ1 := W2.tmps fun p hp => List.mem_append_right _ hp
      have e : acc xs.length = (xs.flatMap fun x => (ys x).map (fb x)).map enc := by show ((xs.take xs.length).flatMap fun x => (ys x).map (fb x)).map enc = _; rw [List.take_length]
      exact q D H2 hB (eP W2) (e ▸ mo) (W4.unwipe hvs)
/-! a, b, .. = a list -/
theorem eg_lst {gs : TGs} {ds : List PyData} {n : Nat} {ws : List Nat} (h : Egs c gs ds ρ ρ1 ws) (hn : ds.length = n := by rfl) : Eg c (gUnl c.K n gs) (.hard (.list ds)) ρ ρ1 ws := fun T σ H v W Q q => by
  obtain ⟨a, xs, rfl, hs, h2⟩ := dp_lst (Wd.dp W)
  exact ⟨a, xs, rfl, ex_l (hide_ex _ _) hs, by rw [dpa_length h2, hn], h T σ H xs (Wd.pop W) h2 Q q⟩
end
end Nz

/-! True - False; len(set(..)); t.index(text); l.remove(data) -/
namespace Nz
open PySem PySem.Spec PyProof.Rows L2 RZ
/-- how many unlike ones -/
def dls (l : List Int) : Nat := (l.foldl step_dedup []).length
theorem firstMet_all (ns : List Int) : firstMet (fun i => ns.getD i 0) ns.length = ns.foldl step_dedup [] := by
  unfold firstMet
  congr 1
  apply List.ext_getElem?
  intro k
  rw [List.getElem?_map]
  by_cases h : k < ns.length
  · rw [List.getElem?_range h, List.getElem?_eq_getElem h]
    simp [List.getD_eq_getElem?_getD, List.getElem?_eq_getElem h]
  · rw [List.getElem?_eq_none_iff.mpr (by rw [List.length_range]; omega), List.getElem?_eq_none_iff.mpr (by omega)]; rfl
section
variable {X : Cx}
def rSubB : R2 := fun x y H Q => ∃ a b, x = .bl a ∧ y = .bl b ∧ Q (.int (b2i a - b2i b)) H
theorem op_subB : OpR X (binaryOp .Sub) rSubB := by
  intro pins s σ H x y v u Q I rx ry h
  obtain ⟨a, b, rfl, rfl, q⟩ := h
  cases rx
  cases ry
  exact sub_bool ⟨.int (b2i a - b2i b), H, I.tok _, ⟨_, rfl⟩, q⟩
def tLenSetD (K : PySem.W.Frag) (ta : TE) : TE := fun σ H Q => ta σ H fun x H1 => ∃ (l : Addr) (ns : List Int), x = .ref l ∧ SqL K H1 l (ns.map V.int) ∧ ns.length ≤ 4000 ∧ Q (.int (dls ns : Nat)) H1
theorem dls_le (ns : List Int) : dls ns ≤ ns.length := by unfold dls; rw [← firstMet_all]; exact firstMet_length_le _ _
theorem pe_lenSetD {a : Expr} {ta : TE} {p p2 q pos : Pos} (hg : Gl X "len") (hm : X.mg "len" = none) (hg2 : Gl X "set") (hm2 : X.mg "set" = none) (ha : PE X a ta) (hc : X.calm = true := by rfl)
    (na : starEach [a] X.env = (false, eval a X.env) :: starEach [] X.env := by rfl) : PE X (.Call (.Name "len" p) [.Call (.Name "set" p2) [a] [] q] [] pos) (tLenSetD X.K ta) := by
  refine ⟨fun pins s σ H Q I h => ?_⟩
  refine Call_ (ld_blt I hg hm boot_len ?_)
  refine PyProof.Rows.callWith_builtin1 (PyProof.Rows.args_cons ?_ rfl) rfl rfl
  refine Call_ (ld_blt I hg2 hm2 boot_set ?_)
  refine PyProof.Rows.callWith_type1 (PyProof.Rows.args_cons (thn (ha.run pins s σ H _ I h) fun v s1 ⟨x, H1, I1, r1, q1⟩ => PyProof.Rows.args_nil ?_) na) na rfl
  obtain ⟨l, ns, rfl, hq, hl, q1⟩ := q1
  cases r1
  obtain ⟨its, r, pl, hz⟩ := I1.list hq
  have hlen : its.toArray.size = ns.length := by rw [List.size_toArray, ← r.length, List.length_map]
  refine call_set_list (I1.ok.hd hc) pl.isList (by simpa using intsAre_vals r) (by rw [hlen]; unfold scanBound; omega) fun h' tk hS hk => ?_
  refine PyProof.Rows.args_nil ?_
  rw [hlen, firstMet_all] at hS
  obtain ⟨o, es, ep, t, ho, hex, hd, _, _, _, hf, hn⟩ := hS
  have I2 : Inv X pins σ H1 { s1 with heap := h', toks := tk } := I1.kept fun b o e => hk b o (Heap.lt_size e) e
  have hle := dls_le ns
  unfold dls at hle
  exact call_len_set ho hex hd hf (by rw [hn] <;> omega) ⟨.int (dls ns : Nat), H1, I2.tok _, ⟨_, by rw [hn]; rfl⟩, q1⟩
def rIdxT (K : PySem.W.Frag) : V → List V → Hp → VK → Prop := fun x xs H Q => ∃ p, ∃ ys : List Str, ∃ z j, x = .ref p ∧ xs = [.str z] ∧ SqT K H p (ys.map V.str) ∧ ys[j]? = some z ∧ (∀ m, m < j → ys[m]? ≠ some z) ∧ Q (.int (j : Nat)) H
theorem mt_tindex : MtR X "tuple.index" (rIdxT X.K) := mt_tup_index
def rRemD (K : PySem.W.Frag) : V → List V → Hp → VK → Prop := fun x xs H Q => ∃ (l : Addr) (ys : List V) (v : V) (ds : List PyData) (d : PyData) (j : Nat), x = .ref l ∧ xs = [v] ∧ H l = some (.lst ys) ∧ DpAll K H ys ds ∧ Dp K H v d ∧
  PyData.plainAll ds = true ∧ d.plain = true ∧ d.depth ≤ 50 ∧ SeqAt.dataPlace ds d = some j ∧ Q .non (upd H l (.lst (ys.eraseIdx j)))
theorem mt_removeD (hu : X.A.units + 64 < cLine) : MtM X "list.remove" (rRemD X.K) := by
  intro pins s σ H x xs v us Q I rx rxs h
  obtain ⟨l, ys, w, ds, d, j, rfl, rfl, hH, hds, hd, p1, p2, hz, hj, q⟩ := h
  cases rx
  obtain ⟨u, rfl, ru⟩ := rxs.one
  obtain ⟨z, its, n, r, hl, e⟩ := I.lstM hH
  obtain ⟨as, r1⟩ := Dp.readsAll I ds ys its hds r
  obtain ⟨bs, r2⟩ := Dp.reads I d w u hd ru
  refine SeqAt.remove_list_data (vs := its.toArray) ⟨_, e, rfl, n, rfl⟩ (by simpa using r1) r2 p1 p2 (by omega) hj (by rw [List.size_toArray]; omega) ?_
  refine ⟨.non, _, I.lset (its' := its.eraseIdx j) (t' := s.toks) hH e ?_ (r.eraseIdx j) ?_, rfl, q⟩
  · show its.toArray.eraseIdxIfInBounds j = (its.eraseIdx j).toArray
    rw [List.eraseIdxIfInBounds_toArray]
  · exact Nat.le_trans (List.length_eraseIdx_le _ _) z
end
section
variable {c : Cz} {ρ ρ1 ρ2 ρ3 : List Sl} {ta tb te tx : TE} {t u : TT} {d d1 d2 : PyData} {T : Tm} {H H' : Hp} {σ : L2.St}
variable {nx bk ct : L2.St → Hp → Prop} {rt : VK}
theorem eD_getD {α : Type} (f : α → PyData) (l : List (Int × α)) (k : Int) (d0 : α) : (valP (eD f l) (Sum.inl k)).getD (f d0) = f ((valP l k).getD d0) := by
  rw [eD_val]; cases valP l k <;> rfl
theorem ed_subB {a b : Bool} (ha : Ed c ρ ta (.bool a) ρ1) (hb : Ed c ρ1 tb (.bool b) ρ2) : Ed c ρ (tOp rSubB ta tb) (.int (b2i a - b2i b)) ρ2 :=
  ed_op ha hb fun T σ H x y W hx hy Q q => ⟨a, b, dp_bl hx, dp_bl hy, q _ H (W.push (.int _))⟩
theorem ed_lenSet {l : List Int} (h : Ed c ρ te (.list (l.map .int)) ρ1) (hz : l.length ≤ 4000) : Ed c ρ (tLenSetD c.K te) (.int (dls l : Nat)) ρ1 := fun T σ H W Q q => h T σ H W _ fun v H1 W1 => by
  obtain ⟨a, xs, rfl, hs, h2⟩ := dp_lst W1.dp
  rw [dpaInts h2] at hs
  exact ⟨a, l, rfl, ex_l (hide_ex _ _) hs, hz, q _ H1 (W1.pop.push (.int _))⟩
theorem idxOf_get {α : Type} [DecidableEq α] : ∀ {l : List α} {z : α}, z ∈ l → l[l.idxOf z]? = some z
  | a :: l, z, h => by
    rw [List.idxOf_cons]
    by_cases e : a = z
    · subst e; simp
    · have : z ∈ l := by
        rcases List.mem_cons.mp h with h | h
        · exact absurd h.symm e
        · exact h
      rw [show (a == z) = false from by simpa using e, cond_false, List.getElem?_cons_succ]; exact idxOf_get this
theorem idxOf_first {α : Type} [DecidableEq α] : ∀ {l : List α} {z : α} {m : Nat}, m < l.idxOf z → l[m]? ≠ some z
  | [], z, m, h => by simp
  | a :: l, z, m, h => by
    rw [List.idxOf_cons] at h
    by_cases e : a = z
    · subst e; rw [beq_self_eq_true, cond_true] at h; omega
    · cases m with
      | zero => simpa using e
      | succ m =>
        rw [List.getElem?_cons_succ]
        refine idxOf_first ?_
        rw [show (a == z) = false from by simpa using e, cond_false] at h
        omega
theorem ed_tidx {l : List Str} {z : Str} (ha : Ed c ρ ta (.tuple (l.map .str)) ρ1) (hb : Ed c ρ1 tb (.str z) ρ2) (hz : z ∈ l) : Ed c ρ (tBMT c.K (rIdxT c.K) ta (tCons tb tNil)) (.int ((l.idxOf z : Nat) : Int)) ρ2 := fun T σ H W Q q => ha T σ H W _ fun v H1 W1 => by
  obtain ⟨a, xs, rfl, hs, h2⟩ := dp_tup W1.dp
  refine ⟨⟨a, xs, rfl, ex_p (hide_ex _ _) hs⟩, hb _ σ H1 W1 _ fun w H2 W2 => ?_⟩
  obtain ⟨a', xs', e, hs', h2'⟩ := dp_tup W2.pop.dp
  cases e
  have := dpaStrs h2'
  subst this
  exact ⟨a, l, z, _, rfl, by rw [dp_str W2.dp], (ex_p (hide_ex _ _) hs').sq, idxOf_get hz, fun m hm => idxOf_first hm, q _ H2 (W2.pop.pop.push (.int _))⟩
theorem place_map {α : Type} [DecidableEq α] {f : α → PyData} [EqE f] : ∀ {l : List α} {z : α}, z ∈ l → SeqAt.dataPlace (l.map f) (f z) = some (l.idxOf z)
  | a :: l, z, h => by
    unfold SeqAt.dataPlace
    rw [List.map_cons, List.findIdx?_cons, EqE.eq a z, List.idxOf_cons]
    by_cases e : a = z
    · subst e; simp
    · have : z ∈ l := by
        rcases List.mem_cons.mp h with h | h
        · exact absurd h.symm e
        · exact h
      have ih := place_map (f := f) this
      unfold SeqAt.dataPlace at ih
      rw [show (a == z) = false from by simpa using e, cond_false, ih]
      simp [e]
theorem erase_mapX {α β : Type} (f : α → β) : ∀ (l : List α) (n : Nat), (l.map f).eraseIdx n = (l.eraseIdx n).map f
  | [], _ => rfl
  | _ :: _, 0 => rfl
  | a :: l, n + 1 => by rw [List.map_cons, List.eraseIdx_cons_succ, List.eraseIdx_cons_succ, List.map_cons, erase_mapX f l n]
theorem s_removeD {α : Type} [DecidableEq α] {f : α → PyData} [EqE f] {i : Nat} {l : Bool} {a : Addr} {xs : List α} {x : α} (h : Ed c ρ te (f x) ρ1) (h0 : ∃ l ds, ρ[i]? = some (.mu l a (.lst ds))) (ha : ρ1[i]? = some (.mu l a (.lst (xs.map f)))) (hx : x ∈ xs)
    (hp : ∀ y, (f y).plain = true) (hz : ∀ y, (f y).depth ≤ 50) (k : Sk c T (ρ1.set i (.mu l a (.lst ((xs.erase x).map f)))) nx) : Ss c T ρ (tDrop (tBM c.K "list" (rRemD c.K) (tVar i) (tCons te tNil))) ⟨nx, rt, bk, ct⟩ := fun σ H W => by
  obtain ⟨l0, o0, h0⟩ := h0
  obtain ⟨e0, e2, e3⟩ := W.ok i _ h0
  obtain ⟨ys, e7, _⟩ := e3
  have ty : tyV c.K "list" (.ref a) H := .inl ⟨rfl, ys, sq_of e7⟩
  refine ⟨.ref a, e0, ty, h T σ H W _ fun v H1 W1 => ?_⟩
  obtain ⟨_, _, zs, e4, e5⟩ := W1.ok i _ ha
  have pa : ∀ l : List α, PyData.plainAll (l.map f) = true := fun l => by
    induction l with
    | nil => rfl
    | cons b l ih => rw [List.map_cons, PyData.plainAll, hp b, ih]; rfl
  refine ⟨a, zs, v, xs.map f, f x, xs.idxOf x, rfl, rfl, e4, dza_dpa _ _ (dpam (hide_ex _ _) e5), dz_dp _ _ (dpm (hide_ex _ _) W1.dp), pa xs, hp x, hz x, place_map hx, ?_⟩
  refine k _ _ (W1.pop.updM ha ⟨zs.eraseIdx (xs.idxOf x), upd_same, ?_⟩)
  have hm : a ∈ hid c ρ1 := List.mem_append_right _ (mem_muts.mpr ⟨i, l, _, ha⟩)
  have e6 : Ex (hide (hid c ρ1) H1) (hide (hid c ρ1) (upd H1 a (.lst (zs.eraseIdx (xs.idxOf x))))) := upd_hid hm
  have e8 := dpa_erase (xs.idxOf x) e5
  have e9 : (xs.map f).eraseIdx (xs.idxOf x) = (xs.erase x).map f := by rw [List.erase_eq_eraseIdx_of_idxOf rfl, erase_mapX]
  rw [e9] at e8
  exact dpam e6 e8
end
end Nz

namespace Nz
open PySem PySem.Spec PyProof.Rows L2 RZ
/-! data that may be laid, is not deep, is plain -/
class ShD {α : Type} (f : α → PyData) (n : outParam Nat) : Prop where
  lay : ∀ a, PyData.canLay0 (f a) = true
  dep : ∀ a, (f a).depth ≤ n
  pl : ∀ a, (f a).plain = true
instance : ShD PyData.int 0 := ⟨fun _ => rfl, fun _ => Nat.le_refl _, fun _ => rfl⟩
theorem shd_all {α : Type} {f : α → PyData} {n : Nat} [ShD f n] : ∀ l : List α, PyData.canLayAll0 (l.map f) = true ∧ PyData.depthAll (l.map f) ≤ n ∧ PyData.plainAll (l.map f) = true
  | [] => ⟨rfl, Nat.zero_le _, rfl⟩
  | a :: l => by
    obtain ⟨h1, h2, h3⟩ := shd_all (f := f) l
    have h4 := ShD.dep (f := f) a
    refine ⟨?_, ?_, ?_⟩
    · show PyData.canLayAll0 (f a :: l.map f) = true
      rw [PyData.canLayAll0, h1, ShD.lay a]; rfl
    · show PyData.depthAll (f a :: l.map f) ≤ n
      rw [PyData.depthAll]; omega
    · show PyData.plainAll (f a :: l.map f) = true
      rw [PyData.plainAll, h3, ShD.pl a]; rfl
instance {α : Type} {f : α → PyData} {n : Nat} [ShD f n] : ShD (eT f) (n + 1) := ⟨fun a => by show PyData.canLay0 (.tuple (a.map f)) = true; rw [PyData.canLay0]; exact (shd_all a).1,
  fun a => by show (PyData.tuple (a.map f)).depth ≤ _; rw [PyData.depth]; have := (shd_all (f := f) a).2.1; omega, fun a => by show (PyData.tuple (a.map f)).plain = true; rw [PyData.plain]; exact (shd_all a).2.2⟩
instance {α : Type} {f : α → PyData} {n : Nat} [ShD f n] : ShD (eL f) (n + 1) := ⟨fun a => by show PyData.canLay0 (.list (a.map f)) = true; rw [PyData.canLay0]; exact (shd_all a).1,
  fun a => by show (PyData.list (a.map f)).depth ≤ _; rw [PyData.depth]; have := (shd_all (f := f) a).2.1; omega, fun a => by show (PyData.list (a.map f)).plain = true; rw [PyData.plain]; exact (shd_all a).2.2⟩
instance {α β : Type} {f : α → PyData} {g : β → PyData} {n m : Nat} [ShD f n] [ShD g m] : ShD (eP f g) (n + m + 1) := ⟨fun p => by
    show PyData.canLay0 (.tuple [f p.1, g p.2]) = true
    rw [PyData.canLay0, PyData.canLayAll0, PyData.canLayAll0, PyData.canLayAll0, ShD.lay p.1, ShD.lay p.2]; rfl,
  fun p => by
    show (PyData.tuple [f p.1, g p.2]).depth ≤ _
    rw [PyData.depth, PyData.depthAll, PyData.depthAll, PyData.depthAll]
    have := ShD.dep (f := f) p.1
    have := ShD.dep (f := g) p.2
    omega,
  fun p => by
    show (PyData.tuple [f p.1, g p.2]).plain = true
    rw [PyData.plain, PyData.plainAll, PyData.plainAll, PyData.plainAll, ShD.pl p.1, ShD.pl p.2]; rfl⟩
theorem sh_of {α : Type} {f : α → PyData} {n : Nat} [ShD f n] (a : α) (h : n ≤ 50 := by decide) : SeqAt.shaped (f a) = true := by
  unfold SeqAt.shaped
  rw [ShD.lay a]
  have := ShD.dep (f := f) a
  exact decide_eq_true (by omega)
theorem dep_of {α : Type} {f : α → PyData} {n : Nat} [ShD f n] (a : α) (h : n ≤ 50 := by decide) : (f a).depth ≤ 50 := Nat.le_trans (ShD.dep a) h
theorem pl_of {α : Type} {f : α → PyData} {n : Nat} [ShD f n] (a : α) : (f a).plain = true := ShD.pl a
end Nz

/-! sorted(a tuple of data) -/
namespace PySem.W
open PySem PySem.Calls PyProof.Rows
section
variable {prog : Program} {w : World} {A : Around} {E : Value → Shared → Prop} {s : Shared} {β : Type} {vs : List Value} {bs : List β} {enc : β → PyData} {R : Value → β → Prop}
theorem collect_tupN {t : Addr} {us : List Value} {Q : List Value → Shared → Prop} (hT : s.heap.IsTuple t us.toArray) (few : us.length ≤ sizeLine)
    (k : Q us { s with heap := (s.heap.push (seqObj "list" #[] 0)).update s.heap.objs.size (Obj.mapSeq (· ++ us.toArray)) }) :
    wpAny (model prog w) A (collect (.ref t)) Q E s := by
  obtain ⟨ob, hob, hcl, m, hdat⟩ := id hT
  unfold collect
  refine wpAny_bind (wpAny_runValue (codeAny_builtin entry_proto_collect' ?z)); case z =>
  show wpAny _ _ (do again (.builtin "list.__iadd__" ⟨[← newList [], .ref t], []⟩)) _ _ s
  refine wpAny_bind (wpAny_newList (wpAny_pure ⟨Code.quiet_builtin _ (by decide +kernel), codeAny_builtin entry_list_iadd' ?y⟩)); case y =>
  show wpAny _ _ (Builtin.List.listExtendWith (.ref s.heap.objs.size) (.ref t) (.ref s.heap.objs.size)) _ _ { s with heap := s.heap.push (seqObj "list" #[] 0) }
  unfold Builtin.List.listExtendWith
  have hob2 : (s.heap.push (seqObj "list" #[] 0)).get? t = some ob := Heap.get?_push_of_some _ hob
  refine wpAny_bind (wpAny_typeOf (T := "tuple") ⟨ob, hob2, hcl⟩ ?x); case x =>
  have e1 : (Value.type "tuple" == Value.type "tuple") = true := by rfl
  rw [if_pos (by rw [e1]; simp)]
  refine wpAny_bind (listItems_at hob2 hdat ?_); refine wpAny_bind (listItems_at (n := 0) (xs := #[]) (Heap.get?_push_size _ rfl) rfl ?_)
  rw [if_neg (by simp)]
  refine wpAny_bind (listUpdate_at (n := 0) (xs := #[]) (Heap.get?_push_size _ rfl) rfl ?_ (Nat.zero_le _) (by show (#[] ++ us.toArray).size ≤ sizeLine + 1; simp only [Array.size_append, List.size_toArray, List.length_nil]; omega))
  refine wpAny_pure ?_
  show wpAny (model prog w) A (do
      let o ← load s.heap.objs.size
      match o.data with
      | .seq xs _ => pure xs.toList
      | _ => unsupported "internal:collect") Q E { s with heap := (s.heap.push (seqObj "list" #[] 0)).update s.heap.objs.size (Obj.mapSeq (· ++ us.toArray)) }
  refine wpAny_bind (wpAny_load (get?_update_seq (Heap.get?_push_size _ rfl) _) ?_)
  show wpAny _ _ (pure ((#[] : Array Value) ++ us.toArray).toList) Q E _
  have e2 : ((#[] : Array Value) ++ us.toArray).toList = us := by simp
  rw [e2]
  exact wpAny_pure k
theorem sorted_of_sortT {t : Addr} {us : List Value} {Q : Value → Shared → Prop} (hT : s.heap.IsTuple t us.toArray) (hL : us.length ≤ sizeLine)
    (body : ∀ E2 : Value → Shared → Prop, wpAny (model prog w) A.in1.in1 (Builtin.«list.sort» ⟨[.ref (s.heap.objs.size + 1)], []⟩) (fun f s2 => f = .done (.ret .none) ∧ Q (.ref (s.heap.objs.size + 1)) s2) E2 { s with heap := copyHeap s.heap us }) :
    wpAny (model prog w) A (call (.builtin "sorted") [.ref t]) Q E s := by
  refine call_function_entry_kw kind_sorted plain_sorted entry_sorted (args_sorted1 _) ?z; case z =>
  unfold Builtin.«sorted»
  refine wpAny_bind (m := checkCount "sorted" 1 1 _) (wpAny_pure ?y); case y =>
  refine wpAny_bind (collect_tupN hT hL ?_); refine wpAny_bind (wpAny_newList ?_ hL)
  have e1 : ((s.heap.push (seqObj "list" #[] 0)).update s.heap.objs.size (Obj.mapSeq (· ++ us.toArray))).objs.size = s.heap.objs.size + 1 := by rw [Heap.size_update, size_push']
  show wpAny _ _ _ _ _ { s with heap := copyHeap s.heap us }
  rw [e1]
  refine wpAny_bind (wpAny_holding (wpAny_call_entry_kw slot_list_sort ⟨_, copyHeap_at s.heap us, rfl⟩ entry_list_sort ?x (args_list_sort _))); case x =>
  show wpAny (model prog w) A.in1.in1 (Builtin.«list.sort» ⟨[.ref (s.heap.objs.size + 1)], []⟩) _ _ _
  refine wpAny_mono (body _) (fun f s2 hf => ?_) fun _ _ e => e
  obtain ⟨rfl, hq⟩ := hf
  exact ⟨_, rfl, wpAny_pure ⟨_, rfl, hq⟩⟩
theorem sorted_dataT {t : Addr} {Q : Value → Shared → Prop} (hT : s.heap.IsTuple t vs.toArray) (e : EachIs R vs bs) (er : EachIs (fun v b => ∃ as, Reads s.heap v (enc b) as) vs bs) (hal : AllAlike (bs.map enc)) (hk : Sortable (bs.map enc)) (hL : bs.length ≤ sizeLine)
    (hu : ∀ b, b ∈ bs → A.units + 2 + (enc b).depth < cLine) (k : ∀ out, out.length = bs.length → EachIs R out (bs.mergeSort (dataLe false enc)) → Q (.ref (s.heap.objs.size + 1)) { s with heap := sortedAll s.heap vs (List.toArray out) }) :
    wpAny (model prog w) A (call (.builtin "sorted") [.ref t]) Q E s := by
  have er2 : EachIs (fun v b => ∃ as, Reads (sortingHeap (copyHeap s.heap vs) (s.heap.objs.size + 1) vs) v (enc b) as) vs bs := er.mono fun _ _ ⟨as, r⟩ => ⟨as, PyProof.Rows.Reads.keeps (fun _ _ => sorting_copy_old) r⟩
  have S := SortsAt.data (prog := prog) (w := w) (A := A.in1.in1) (s := { s with heap := sortingHeap (copyHeap s.heap vs) (s.heap.objs.size + 1) vs }) (each_map (R := fun v d => ∃ as, Reads (sortingHeap (copyHeap s.heap vs) (s.heap.objs.size + 1) vs) v d as) enc er2) hal hk (bound_map hu)
  have hv : vs.length ≤ sizeLine := by rw [e.length]; exact hL
  refine sorted_of_sortT hT hv fun _ => list_sort_vals (s := { s with heap := copyHeap s.heap vs }) (copyHeap_at s.heap vs) S hv ⟨rfl, ?_⟩
  exact k _ (by rw [sortVals_length false rfl]; exact e.length) (sortVals_data false e er2 hal)
end
end PySem.W
namespace Nz
open PySem PySem.Spec PyProof.Rows L2 RZ PySem.W
section
variable {β : Type}
def rSortXT (K : PySem.W.Frag) (enc : β → PyData) : List V → Hp → VK → Prop := fun vs H Q => ∃ (a : Addr) (xs : List V) (bs : List β) (R : V → β → Prop), vs = [.ref a] ∧ SqT K H a xs ∧ EachIs R xs bs ∧ (∀ v b, R v b → Dp K H v (enc b)) ∧
  AllAlike (bs.map enc) ∧ Sortable (bs.map enc) ∧ (∀ b ∈ bs, (enc b).depth ≤ 50) ∧ ∀ (ys : List V) (p : Addr), EachIs R ys (bs.mergeSort (dataLe false enc)) → H p = none → Q (.ref p) (upd H p (.lst ys))
theorem cr_sortedXT {X : Cx} {enc : β → PyData} (hu : X.A.units + 64 < cLine) : CallR X (.builtin "sorted") (rSortXT X.K enc) := by
  intro pins s σ H vs us Q I r h
  obtain ⟨a, xs, bs, R, rfl, hs, he, hR, hal, hk, hd, q⟩ := h
  obtain ⟨its, rv, hl, hz⟩ := I.tuple hs
  rw [Vals.ref1 r]
  obtain ⟨e1, e2⟩ := each_vals I hR rv he
  have hlen := he.length
  refine sorted_dataT hl e1 e2 hal hk (by rw [← hlen]; exact hz) (fun b hb => by have := hd b hb; omega) fun out hl2 ho => ?_
  obtain ⟨ys, r2, e3⟩ := each_out ho
  obtain ⟨ep, he'⟩ := PyProof.Rows.sortedAll_at s.heap its out.toArray
  exact ⟨.ref _, upd H (s.heap.objs.size + 1) (.lst ys), I.laid (t' := s.toks) (fun _ _ => PyProof.Rows.sortedAll_old) (Nat.le_succ _) ⟨by rw [r2.length, hl2, ← hlen]; exact hz, out, ep, r2, he'⟩, rfl, q ys _ e3 (I.hok.fresh (Nat.le_succ _))⟩
end
section
variable {c : Cz} {ρ ρ1 ρ2 ρ3 : List Sl} {te : TE} {β : Type} {enc : β → PyData}
theorem el_sortXT {l : List β} (h : Ed c ρ te (.tuple (l.map enc)) ρ1) (hal : AllAlike (l.map enc)) (hk : Sortable (l.map enc)) (hd : ∀ b ∈ l, (enc b).depth ≤ 50) : EdL c ρ (tCB (rSortXT c.K enc) (tCons te tNil)) ((sortX enc l).map enc) ρ1 := fun T σ H W Q q => h T σ H W _ fun v H1 W1 => by
  obtain ⟨a, xs, rfl, hs, h2⟩ := dp_tup W1.dp
  refine ⟨a, xs, l, fun v b => Dz c.K (hide (hid c ρ1) H1) v (enc b), rfl, (ex_p (hide_ex _ _) hs).sq, each_dz h2, fun v b hv => dz_dp _ _ (dpm (hide_ex _ _) hv), hal, hk, hd, fun ys p he hp => ?_⟩
  obtain ⟨x1, x2, x3, x4⟩ := el_new W1.pop (dz_each he) hp
  exact q p _ x1 x2 x3 x4
end
end Nz

/-! x += a new list -/
namespace Nz
open PySem PySem.Spec PyProof.Rows L2 RZ
theorem pt_truthK {X : Cx} {K : PySem.W.Frag} {a : Expr} {ta : TE} (ha : PE X a ta) (he : ∀ whole, isTrue a X.env whole = (do let v ← whole; standAt a.pos; holding [v] (truthy v))) (hK : X.K = K := by rfl) : PT X a (fun σ H Q => ta σ H fun x H' => ∃ k, TruV K x H' k ∧ Q k H') := by
  subst hK
  exact pt_truth ha he
section
variable {c : Cz} {ρ ρ1 ρ2 ρ3 : List Sl} {ta tb te tx : TE} {t u : TT} {d d1 d2 : PyData} {T : Tm} {H H' : Hp} {σ : L2.St}
variable {nx bk ct : L2.St → Hp → Prop} {rt : VK}
theorem set_sameA {α : Type} {l : List α} {i : Nat} {x : α} (h : l[i]? = some x) : l.set i x = l := by
  apply List.ext_getElem?
  intro k
  by_cases q : i = k
  · rw [← q, List.getElem?_set_self (List.getElem?_eq_some_iff.mp h).1, h]
  · rw [List.getElem?_set_ne q]
theorem s_augL {i : Nat} {l : Bool} {a : Addr} {ds es : List PyData} (h0 : ρ[i]? = some (.mu l a (.lst ds))) (h : EdL c ρ te es ρ1) (ha : ρ1[i]? = some (.mu l a (.lst ds))) (hz : ds.length + es.length ≤ 100000)
    (k : Sk c T (ρ1.set i (.mu l a (.lst (ds ++ es)))) nx) : Ss c T ρ (tAug i te rExt2) ⟨nx, rt, bk, ct⟩ := fun σ H W => by
  obtain ⟨e0, _, _⟩ := W.ok i _ h0
  refine ⟨.ref a, e0, h T σ H W _ fun p H1 hB hn hm W0 => ?_⟩
  have W1 := W0.unhide W.sub
  obtain ⟨zs, g1, g2⟩ := hm
  obtain ⟨_, _, xs, e4, e5⟩ := W1.ok i _ ha
  have hm : a ∈ hid c ρ1 := List.mem_append_right _ (mem_muts.mpr ⟨i, l, _, ha⟩)
  have e9 : Ex (hide (p :: hid c ρ1) H1) (hide (hid c ρ1) H1) := hide_mono fun b o n z => ⟨fun m => n (List.mem_cons_of_mem _ m), z⟩
  refine ⟨a, p, xs, zs, rfl, rfl, e4, g1, by rw [dpa_length e5, dpa_length g2]; exact Nat.le_trans hz (by decide), ?_⟩
  show nx (List.set σ i (some (.ref a))) _
  rw [show List.set σ i (some (.ref a)) = σ from set_sameA e0]
  refine k _ _ (W1.updM ha ⟨xs ++ zs, upd_same, ?_⟩)
  have e6 : Ex (hide (hid c ρ1) H1) (hide (hid c ρ1) (upd H1 a (.lst (xs ++ zs)))) := upd_hid hm
  exact dpam e6 (dpa_append e5 (dpam e9 g2))
end
end Nz

/-! max of a number and what is drawn; a list cut where a draw says; two at once, both new lists that change -/
namespace Nz
open PySem PySem.Spec PyProof.Rows L2 RZ
section
variable {c : Cz} {ρ ρ1 ρ2 ρ3 : List Sl} {ta tb te tx : TE} {T : Tm} {H H' : Hp} {σ : L2.St}
variable {nx bk ct : L2.St → Hp → Prop} {rt : VK}
theorem beq_ext {α : Type} (i1 i2 : BEq α) (h : ∀ a b, @BEq.beq α i1 a b = @BEq.beq α i2 a b) : i1 = i2 := by
  cases i1
  cases i2
  congr
  funext a b
  exact h a b
theorem er_eq {α : Type} (d : DecidableEq α) [i2 : BEq α] [LawfulBEq α] (x : α) (l : List α) : @List.erase α (@instBEqOfDecidableEq α d) l x = @List.erase α i2 l x := by
  have e : @instBEqOfDecidableEq α d = i2 := beq_ext _ _ fun a b => by
    show @decide (a = b) (d a b) = @BEq.beq α i2 a b
    by_cases e : a = b
    · rw [@decide_eq_true _ (d a b) e, e]; exact (@beq_self_eq_true α i2 _ b).symm
    · rw [@decide_eq_false _ (d a b) e]; exact (@beq_eq_false_iff_ne α i2 _ a b).mpr e |>.symm
  rw [e]
theorem ew_max1 {a : Int} {P : Int → Prop} (h : Ew c ρ te PyData.int P ρ1) : Ew c ρ (tCB (rMaxT c.K) (tCons (tLst (tCons (tC (.int a)) (tCons te tNil))) tNil)) PyData.int (fun z => ∃ m, P m ∧ z = maxOf [a, m]) ρ1 :=
  ew_1 (G := fun te => tCB (rMaxT c.K) (tCons (tLst (tCons (tC (.int a)) (tCons te tNil))) tNil)) (k := fun v _ H Q => ([V.int a, v] : List V).length ≤ sizeLine ∧ ∀ p, H p = none → rMaxT c.K [.ref p] (upd H p (.lst [V.int a, v])) Q) (F := fun m => maxOf [a, m]) (fun _ _ _ _ => rfl) h
    fun m _ ρ ta hm => ed_maxL (l := [a, m]) (ed_L (el_lst (ds := [a, m].map PyData.int) (ea_cons ed_int (ea_cons hm ea_nil)))) (by simp)
theorem ewl_cutM {α : Type} {f : α → PyData} {xs : List α} {P : Int → Prop} {i : Nat} {l : Bool} {a : Addr} (h0 : ∃ l o, ρ[i]? = some (.mu l a o)) (h : Ew c ρ te PyData.int P ρ1) (ha : ρ1[i]? = some (.mu l a (.lst (xs.map f)))) :
    EwL c ρ (tSl (rSlL c.K) (tVar i) tNoPart (tPart te)) (fun z : List α => z.map f) (fun z => ∃ m, P m ∧ z = cutX xs none (some m)) ρ1 := fun T σ H W Q q => by
  obtain ⟨l0, o0, h0⟩ := h0
  refine ⟨.ref a, (W.ok i _ h0).1, h T σ H W _ fun m v H1 pm W1 => ⟨m, dp_int W1.dp, ?_⟩⟩
  obtain ⟨_, _, zs, e4, e5⟩ := W1.ok i _ ha
  refine ⟨a, zs, rfl, sq_of e4, fun p hp => ?_⟩
  obtain ⟨x1, x2, x3, x4⟩ := el_new W1.pop (cut_dp e5 none (some m)) hp
  rw [cutD_map] at x3
  exact q _ p _ ⟨m, pm, rfl⟩ x1 x2 x3 x4
theorem s_parM2 {i j : Nat} {ds es : List PyData} (h : EdL c ρ ta ds ρ1) (h2 : ∀ S B, EdL (c.at S B) ρ1 tb es ρ1) (hij : i ≠ j) (k : ∀ p q, Sk c T ((ρ1.set i (.mu true p (.lst ds))).set j (.mu true q (.lst es))) nx) : Ss c T ρ (tPar i j (tCons ta (tCons tb tNil))) ⟨nx, rt, bk, ct⟩ := fun σ H W =>
  h T σ H W _ fun p H1 hB hn mo W1 => by
    obtain ⟨xs, hx, dx⟩ := mo
    have hs := W.sub
    have nS : p ∉ c.S0 := fun m => hn (List.mem_append_left _ m)
    have nM : p ∉ c.M := fun m => nS (hs p m)
    have lx := dpa_length dx
    have W2 : Wd (c.at (p :: c.S0) (upd c.B p (.lst xs))) (xs.zip ds ++ T) H1 σ ρ1 := (W1.pin hx hB hs nS).pushAll dx
    refine h2 _ _ _ σ H1 W2 _ fun p2 H2 B2 n2 mo2 W3 => ?_
    have ne : p2 ≠ p := fun e => by
      subst e
      exact n2 (List.mem_append_left _ (List.mem_cons_self ..))
    have B2' : c.B p2 = none := by
      have B2 : upd c.B p _ p2 = none := B2
      rw [upd_ne ne] at B2; exact B2
    have n2' : p2 ∉ hid c ρ1 := fun m => by
      rcases List.mem_append.mp m with m | m
      · exact n2 (List.mem_append_left _ (List.mem_cons_of_mem _ m))
      · exact n2 (List.mem_append_right _ m)
    have W4 : Wd ((c.hidden p2).at (p :: (c.hidden p2).S0) (upd (c.hidden p2).B p (.lst xs))) (xs.zip ds ++ T) H2 σ ρ1 := Wd.reS (S := p2 :: p :: c.S0) W3 fun x => by
      simp only [List.mem_cons]
      exact ⟨fun h => h.elim (fun e => .inr (.inl e)) (fun h => h.elim .inl (fun h => .inr (.inr h))), fun h => h.elim (fun e => .inr (.inl e)) (fun h => h.elim .inl (fun h => .inr (.inr h)))⟩
    obtain ⟨hp2, W5⟩ := W4.unpin (c := c.hidden p2) hB nM
    have nh : p ∉ hid (c.hidden p2) ρ1 := fun m => by
      rcases List.mem_append.mp m with m | m
      · rcases List.mem_cons.mp m with m | m
        · exact ne m.symm
        · exact nS m
      · exact hn (List.mem_append_right _ m)
    have dx2 : DzAll c.K (hide (hid ((c.hidden p2).hidden p) ρ1) H2) xs ds := Wd.allOf (T := T) lx W5
    have hs2 : ∀ a ∈ (c.hidden p2).M, a ∈ (c.hidden p2).S0 := fun b m => List.mem_cons_of_mem _ (hs b m)
    have W6 := W5.setM (c := c.hidden p2) hs2 i (l := true) (o := .lst ds) (by rw [if_pos rfl]; exact hB) nh ⟨xs, hp2, dx2⟩
    have n3 : p2 ∉ hid c (ρ1.set i (.mu true p (.lst ds))) := fun m => by
      rcases List.mem_append.mp m with m | m
      · exact n2' (List.mem_append_left _ m)
      · obtain ⟨r, l, u, e⟩ := mem_muts.mp m
        rcases get_set e with ⟨_, _, e⟩ | ⟨_, e⟩
        · cases e; exact ne rfl
        · exact n2' (List.mem_append_right _ (mem_muts.mpr ⟨r, l, u, e⟩))
    obtain ⟨zs, hz, dz⟩ := mo2
    have ez : Ex (hide (p2 :: hid (c.at (p :: c.S0) (upd c.B p (.lst xs))) ρ1) H2) (hide (p2 :: hid c (ρ1.set i (.mu true p (.lst ds)))) H2) := hide_mono fun b o n e => ⟨fun m => by
      rcases List.mem_cons.mp m with m | m
      · exact n (by rw [m]; exact List.mem_cons_self ..)
      · rcases List.mem_append.mp m with m | m
        · exact n (List.mem_cons_of_mem _ (List.mem_append_left _ (List.mem_cons_of_mem _ m)))
        · obtain ⟨r, l, u, e⟩ := mem_muts.mp m
          rcases get_set e with ⟨_, _, e⟩ | ⟨_, e⟩
          · cases e; exact n (List.mem_cons_of_mem _ (List.mem_append_left _ (List.mem_cons_self ..)))
          · exact n (List.mem_cons_of_mem _ (List.mem_append_right _ (mem_muts.mpr ⟨r, l, u, e⟩))), e⟩
    have W7 := W6.setM (c := c) hs j (l := true) (o := .lst es) (by rw [if_pos rfl]; exact B2') n3 ⟨zs, hz, dpam ez dz⟩
    refine ⟨.ref p, .ref p2, rfl, ?_⟩
    exact k p p2 _ _ (W7.tmps fun q hq => List.mem_append_right _ hq)
end
end Nz

/-! a def called with nothing -/
namespace Nz
open PySem PySem.Spec PyProof.Rows L2
theorem pe_cl0 {X : Cx} {k : Nat} {x : Str} {ps : List Str} {sp : Sp} {p pos : Pos} (C : Cl X.prog X.w X.K X.mg X.base k x ps sp) (hr : Room k X.A) (hgd : X.A.guards = some []) (hg : Gl X x)
    (hdb : (x == ("__debug__" : Str)) = false := by decide) : PE X (.Call (.Name x p) [] [] pos) (tCall sp [] E0 tNil) := by
  obtain ⟨f, fd, F, hm, hk, hb⟩ := C.ex
  refine ⟨fun pins s σ H Q I h => ?_⟩
  apply wpAny_Call_Name_kw
  apply ld_glob I hg hm ?_ hdb
  exact PySem.W.callWith_K0 I.kIn hk (run_fnG (us := []) F hr hgd hb I .nil h)
end Nz

/-! k87: shapes, places, worths -/
namespace Nz
open PySem PySem.Spec PyProof.Rows L2 RZ PySem.W
abbrev ePI : Card → PyData := eP PyData.int PyData.int
theorem pi_al (l : List Card) : AllAlike (l.map (eP PyData.int PyData.int)) := AllAlike.of card_alike
theorem pi_so (l : List Card) : Sortable (l.map (eP PyData.int PyData.int)) := Sortable.tuples fun p => ⟨_, _, rfl⟩
theorem le_card (p q : Card) : dataLe false ePI p q = !decide (CardLt q p) := by rw [dataLe_eq]; show (!dataLt _ _) = _; rw [card_lt]
theorem card_irr (p : Card) : ¬ CardLt p p := fun h => by rcases h with h | h <;> omega
theorem card_tr {p q r : Card} (h : CardLt p q) (h2 : CardLt q r) : CardLt p r := by unfold CardLt at *; omega
theorem card_tri (p q : Card) : CardLt p q ∨ p = q ∨ CardLt q p := by
  obtain ⟨a, b⟩ := p
  obtain ⟨c, d⟩ := q
  unfold CardLt
  simp only [Prod.mk.injEq]
  omega
theorem sortC_asc (l : List Card) : (sortX ePI l).Pairwise fun p q => ¬ CardLt q p := by
  have h := List.pairwise_mergeSort (le := dataLe false ePI) (fun a b c h1 h2 => by
    rw [le_card] at *
    simp only [Bool.not_eq_true', decide_eq_false_iff_not] at *
    intro h
    rcases card_tri a b with h3 | h3 | h3
    · exact h2 (card_tr h h3)
    · exact h2 (h3 ▸ h)
    · exact h1 h3) (fun a b => by
    rw [le_card, le_card]
    by_cases h : CardLt a b
    · have : ¬ CardLt b a := fun h2 => card_irr _ (card_tr h h2)
      simp [this]
    · simp [h]) l
  exact h.imp fun {a b} z => by rw [le_card] at z; simpa using z
theorem sortC_un {l ys : List Card} (h : ys.Perm l) (h2 : ys.Pairwise fun p q => ¬ CardLt q p) : ys = sortX ePI l :=
  List.Perm.eq_of_pairwise (fun a b _ _ h1 h2 => by rcases card_tri a b with h | h | h; exact absurd h h2; exact h; exact absurd h h1) h2 (sortC_asc l) (h.trans (sortX_perm ePI l).symm)
theorem sortC_perm {l m : List Card} (h : l.Perm m) : sortX ePI l = sortX ePI m := sortC_un ((sortX_perm ePI l).trans h) (sortC_asc l)
theorem asc_strictC : ∀ {l : List Card}, l.Pairwise (fun p q => ¬ CardLt q p) → l.Nodup → l.Pairwise CardLt
  | [], _, _ => .nil
  | a :: l, h, n => by
    rw [List.pairwise_cons] at h ⊢
    rw [List.nodup_cons] at n
    exact ⟨fun b hb => by rcases card_tri a b with h1 | h1 | h1; exact h1; exact absurd (h1 ▸ hb) n.1; exact absurd h1 (h.1 b hb), asc_strictC h.2 n.2⟩
theorem asc_nodupC {l : List Card} (h : l.Pairwise CardLt) : l.Nodup := h.imp fun {a b} z e => by subst e; exact card_irr _ z
/-! how often each rank comes -/
def cntD (h : List Card) : List (Int × Int) := h.foldl (fun l c => putP l c.1 ((valP l c.1).getD 0 + 1)) []
theorem cntD_snoc (h : List Card) (c : Card) : cntD (h ++ [c]) = putP (cntD h) c.1 ((valP (cntD h) c.1).getD 0 + 1) := by unfold cntD; rw [List.foldl_append]; rfl
theorem snoc_ind {α : Type} {P : List α → Prop} (h0 : P []) (h1 : ∀ l a, P l → P (l ++ [a])) (l : List α) : P l := by
  rw [← List.reverse_reverse l]
  induction l.reverse with
  | nil => exact h0
  | cons a l ih => rw [List.reverse_cons]; exact h1 _ _ ih
theorem cntD_val (h : List Card) : ∀ k, valP (cntD h) k = if k ∈ h.map Prod.fst then some (((h.map Prod.fst).count k : Nat) : Int) else none := by
  refine snoc_ind (P := fun h => ∀ k, valP (cntD h) k = if k ∈ h.map Prod.fst then some (((h.map Prod.fst).count k : Nat) : Int) else none) (fun k => rfl) (fun l a ih k => ?_) h
  rw [cntD_snoc, valP_put, ih, ih, List.map_append, List.map_cons, List.map_nil, List.count_append, List.count_singleton]
  by_cases e : k = a.1
  · subst e
    have hm : a.1 ∈ l.map Prod.fst ++ [a.1] := List.mem_append_right _ (List.mem_cons_self ..)
    rw [if_pos rfl, if_pos hm]
    by_cases m : a.1 ∈ l.map Prod.fst
    · rw [if_pos m]; simp
    · rw [if_neg m, List.count_eq_zero_of_not_mem m]; simp
  · rw [if_neg e]
    have e2 : (a.1 == k) = false := by simpa using fun h => e h.symm
    by_cases m : k ∈ l.map Prod.fst
    · rw [if_pos m, if_pos (List.mem_append_left _ m), e2]; simp
    · rw [if_neg m, if_neg (by rw [List.mem_append]; rintro (h | h); exact m h; exact e (by simpa using h))]
theorem cntD_nodup (h : List Card) : ((cntD h).map Prod.fst).Nodup := by
  refine snoc_ind (P := fun h => ((cntD h).map Prod.fst).Nodup) .nil (fun l a ih => ?_) h
  rw [cntD_snoc]; exact putP_nodup ih
theorem cntD_keys (h : List Card) : ∀ k, k ∈ (cntD h).map Prod.fst ↔ k ∈ h.map Prod.fst := by
  refine snoc_ind (P := fun h => ∀ k, k ∈ (cntD h).map Prod.fst ↔ k ∈ h.map Prod.fst) (fun k => Iff.rfl) (fun l a ih k => ?_) h
  rw [cntD_snoc, putP_keys, ih, List.map_append, List.mem_append]
  constructor
  · rintro (rfl | h)
    · exact .inr (by simp)
    · exact .inl h
  · rintro (h | h)
    · exact .inr h
    · exact .inl (by simpa using h)
theorem cntD_len (h : List Card) : (cntD h).length ≤ h.length := by
  refine snoc_ind (P := fun h => (cntD h).length ≤ h.length) (Nat.le_refl _) (fun l a ih => ?_) h
  rw [cntD_snoc, List.length_append]
  have := putP_len (cntD l) a.1 ((valP (cntD l) a.1).getD 0 + 1)
  simp; omega
theorem valP_of_mem {α : Type} : ∀ {l : List (Int × α)} {p : Int × α}, (l.map Prod.fst).Nodup → p ∈ l → valP l p.1 = some p.2
  | q :: l, p, n, h => by
    unfold valP
    rw [List.find?_cons]
    rw [List.map_cons, List.nodup_cons] at n
    by_cases e : q.1 = p.1
    · have : p = q := by
        rcases List.mem_cons.mp h with h | h
        · exact h
        · exact absurd (List.mem_map.mpr ⟨p, h, e.symm⟩) n.1
      subst this
      simp
    · have hm : p ∈ l := by
        rcases List.mem_cons.mp h with h | h
        · exact absurd (by rw [h]) e
        · exact h
      have := valP_of_mem n.2 hm
      unfold valP at this
      simp [e, this]
theorem cntD_mem {h : List Card} {p : Int × Int} : p ∈ cntD h ↔ p.1 ∈ h.map Prod.fst ∧ p.2 = (((h.map Prod.fst).count p.1 : Nat) : Int) := by
  constructor
  · intro hp
    have h1 := valP_of_mem (cntD_nodup h) hp
    have h2 := (cntD_keys h p.1).mp (List.mem_map.mpr ⟨p, hp, rfl⟩)
    rw [cntD_val, if_pos h2] at h1
    exact ⟨h2, (Option.some.inj h1).symm⟩
  · rintro ⟨h1, h2⟩
    obtain ⟨q, hq, e⟩ := List.mem_map.mp ((cntD_keys h p.1).mpr h1)
    have h3 := valP_of_mem (cntD_nodup h) hq
    rw [cntD_val, e, if_pos h1] at h3
    have : p = q := Prod.ext e.symm (h2.trans (Option.some.inj h3))
    rw [this]; exact hq
theorem cntD_nd (h : List Card) : (cntD h).Nodup := List.Pairwise.of_map Prod.fst (fun a b e q => e (by rw [q])) (cntD_nodup h)
def rowsU (h : List Card) : List Card := (sortU (h.map Prod.fst)).map fun r => ((((h.map Prod.fst).count r : Nat) : Int), r)
/-- the rows of a hand: how often, which; the greatest first -/
def manyL (h : List Card) : List Card := (sortX ePI (rowsU h)).reverse
theorem rowsU_mem {h : List Card} {p : Card} : p ∈ rowsU h ↔ p.2 ∈ h.map Prod.fst ∧ p.1 = (((h.map Prod.fst).count p.2 : Nat) : Int) := by
  unfold rowsU
  rw [List.mem_map]
  constructor
  · rintro ⟨r, hr, rfl⟩
    exact ⟨sortU_mem.mp hr, rfl⟩
  · rintro ⟨h1, h2⟩
    exact ⟨p.2, sortU_mem.mpr h1, Prod.ext h2.symm rfl⟩
theorem rowsU_nodup (h : List Card) : (rowsU h).Nodup := by
  unfold rowsU
  refine List.Pairwise.map _ (fun a b e q => e ?_) (strict_nodup (sortU_asc (h.map Prod.fst)))
  exact congrArg Prod.snd q
theorem shp_eq (h : List Card) : (sortX ePI ((cntD h).map fun (p : Int × Int) => (p.2, p.1))).reverse = manyL h := by
  unfold manyL
  refine congrArg List.reverse (sortC_perm ?_)
  refine (List.perm_ext_iff_of_nodup ?_ (rowsU_nodup h)).mpr fun p => ?_
  · refine List.Pairwise.map _ (fun a b e q => e ?_) (cntD_nd h)
    exact Prod.ext (congrArg Prod.snd q) (congrArg Prod.fst q)
  · rw [rowsU_mem, List.mem_map]
    constructor
    · rintro ⟨q, hq, rfl⟩
      exact cntD_mem.mp hq
    · intro hp
      exact ⟨(p.2, p.1), cntD_mem.mpr hp, rfl⟩
theorem manyL_perm {h m : List Card} (p : h.Perm m) : manyL h = manyL m := by
  unfold manyL rowsU
  have e : sortU (h.map Prod.fst) = sortU (m.map Prod.fst) := sortU_un (sortU_asc _) fun x => by rw [sortU_mem]; exact (p.map Prod.fst).mem_iff
  rw [e]
  congr 2
  exact List.map_congr_left fun r _ => by rw [(p.map Prod.fst).count_eq]
theorem manyL_mem {h : List Card} {p : Card} : p ∈ manyL h ↔ p.2 ∈ h.map Prod.fst ∧ p.1 = (((h.map Prod.fst).count p.2 : Nat) : Int) := by
  unfold manyL
  rw [List.mem_reverse, (sortX_perm ePI _).mem_iff, rowsU_mem]
theorem manyL_desc (h : List Card) : (manyL h).Pairwise fun p q => CardLt q p := by
  unfold manyL
  rw [List.pairwise_reverse]
  exact asc_strictC (sortC_asc _) ((sortX_perm ePI _).nodup_iff.mpr (rowsU_nodup h))
theorem count_sum (l : List Int) : ∀ {ks : List Int}, ks.Nodup → (∀ x ∈ l, x ∈ ks) → (ks.map fun k => ((l.count k : Nat) : Int)).sum = l.length := by
  induction l with
  | nil =>
    intro ks _ _
    induction ks with
    | nil => rfl
    | cons k ks ih => simpa using ih (by rename_i n _; exact (List.nodup_cons.mp n).2) (by simp)
  | cons a l ih =>
    intro ks n h
    have h1 := ih n fun x hx => h x (List.mem_cons_of_mem _ hx)
    have key : ∀ ks : List Int, ks.Nodup → (ks.map fun k => (((a :: l).count k : Nat) : Int)).sum = (ks.map fun k => ((l.count k : Nat) : Int)).sum + if a ∈ ks then 1 else 0 := fun ks => by
      induction ks with
      | nil => intro _; rfl
      | cons k ks ih2 =>
        intro n
        rw [List.nodup_cons] at n
        rw [List.map_cons, List.sum_cons, List.map_cons, List.sum_cons, ih2 n.2, List.count_cons]
        by_cases e : a = k
        · subst e
          rw [if_neg n.1, if_pos (List.mem_cons_self ..)]
          simp; omega
        · have e2 : (a == k) = false := by simpa using e
          rw [e2]
          by_cases m : a ∈ ks
          · rw [if_pos m, if_pos (List.mem_cons_of_mem _ m)]; simp; omega
          · have nm : ¬ a ∈ k :: ks := fun z => by
              rcases List.mem_cons.mp z with z | z
              · exact e z
              · exact m z
            rw [if_neg m, if_neg nm]; simp
    rw [key ks n, h1, if_pos (h a (List.mem_cons_self ..))]
    simp
theorem sum_perm {l m : List Int} (h : l.Perm m) : l.sum = m.sum := by
  induction h with
  | nil => rfl
  | cons x _ ih => rw [List.sum_cons, List.sum_cons, ih]
  | swap x y l => simp only [List.sum_cons]; omega
  | trans _ _ h1 h2 => exact h1.trans h2
theorem many_sum (h : List Card) : ((manyL h).map Prod.fst).sum = h.length := by
  unfold manyL
  rw [sum_perm (((List.reverse_perm _).trans (sortX_perm ePI _)).map Prod.fst)]
  unfold rowsU
  rw [List.map_map]
  have := count_sum (h.map Prod.fst) (ks := sortU (h.map Prod.fst)) (strict_nodup (sortU_asc _)) fun x hx => sortU_mem.mpr hx
  rw [List.length_map] at this
  exact this
theorem many_pos {h : List Card} {x : Int} (hx : x ∈ (manyL h).map Prod.fst) : 1 ≤ x := by
  obtain ⟨p, hp, rfl⟩ := List.mem_map.mp hx
  obtain ⟨h1, h2⟩ := manyL_mem.mp hp
  have := List.count_pos_iff.mpr h1
  omega
theorem many_ge (h : List Card) : ((manyL h).map Prod.fst).Pairwise fun a b => b ≤ a := by
  refine List.Pairwise.map _ (fun a b z => ?_) (manyL_desc h)
  rcases z with z | z <;> omega
theorem sum_ge : ∀ {l : List Int}, (∀ x ∈ l, 1 ≤ x) → (l.length : Int) ≤ l.sum
  | [], _ => by simp
  | a :: l, h => by
    have h1 := h a (List.mem_cons_self ..)
    have h2 := sum_ge fun x hx => h x (List.mem_cons_of_mem _ hx)
    rw [List.length_cons, List.sum_cons]
    omega
def parts : List (List Int) := [[1, 1, 1, 1, 1], [2, 1, 1, 1], [2, 2, 1], [3, 1, 1], [3, 2], [4, 1], [5]]
theorem parts5 {l : List Int} (h1 : ∀ x ∈ l, 1 ≤ x) (h2 : l.Pairwise fun a b => b ≤ a) (h3 : l.sum = 5) : l ∈ parts := by
  have hl := sum_ge h1
  rw [h3] at hl
  match l, h1, h2, h3, hl with
  | [], _, _, h3, _ => simp at h3
  | [a], h1, h2, h3, _ =>
    have : a = 5 := by simpa using h3
    subst this; decide
  | [a, b], h1, h2, h3, _ =>
    simp only [List.mem_cons, List.not_mem_nil, or_false, forall_eq_or_imp, forall_eq, List.pairwise_cons, List.sum_cons, List.sum_nil] at h1 h2 h3
    have e : (a = 4 ∧ b = 1) ∨ (a = 3 ∧ b = 2) := by omega
    rcases e with ⟨rfl, rfl⟩ | ⟨rfl, rfl⟩ <;> decide
  | [a, b, c], h1, h2, h3, _ =>
    simp only [List.mem_cons, List.not_mem_nil, or_false, forall_eq_or_imp, forall_eq, List.pairwise_cons, List.sum_cons, List.sum_nil] at h1 h2 h3
    have e : (a = 3 ∧ b = 1 ∧ c = 1) ∨ (a = 2 ∧ b = 2 ∧ c = 1) := by omega
    rcases e with ⟨rfl, rfl, rfl⟩ | ⟨rfl, rfl, rfl⟩ <;> decide
  | [a, b, c, d], h1, h2, h3, _ =>
    simp only [List.mem_cons, List.not_mem_nil, or_false, forall_eq_or_imp, forall_eq, List.pairwise_cons, List.sum_cons, List.sum_nil] at h1 h2 h3
    have e : a = 2 ∧ b = 1 ∧ c = 1 ∧ d = 1 := by omega
    obtain ⟨rfl, rfl, rfl, rfl⟩ := e; decide
  | [a, b, c, d, f], h1, h2, h3, _ =>
    simp only [List.mem_cons, List.not_mem_nil, or_false, forall_eq_or_imp, forall_eq, List.pairwise_cons, List.sum_cons, List.sum_nil] at h1 h2 h3
    have e : a = 1 ∧ b = 1 ∧ c = 1 ∧ d = 1 ∧ f = 1 := by omega
    obtain ⟨rfl, rfl, rfl, rfl, rfl⟩ := e; decide
  | _ :: _ :: _ :: _ :: _ :: _ :: l, _, _, _, hl => simp only [List.length_cons] at hl; omega
theorem many_parts {h : List Card} (h5 : h.length = 5) : (manyL h).map Prod.fst ∈ parts := parts5 (fun _ hx => many_pos hx) (many_ge h) (by rw [many_sum, h5]; rfl)
/-! places -/
def suited (h : List Card) : Bool := decide ((dls (h.map Prod.snd) : Int) = 1)
def inRow (h : List Card) : Bool := decide ((ixG (manyL h) 0).2 - (ixG (manyL h) 4).2 = 4)
def placeH (h : List Card) : Int :=
  let cs := (manyL h).map Prod.fst
  if cs = [1, 1, 1, 1, 1] then (if inRow h && suited h then 8 else if suited h then 5 else if inRow h then 4 else 0)
  else if cs = [2, 1, 1, 1] then 1 else if cs = [2, 2, 1] then 2 else if cs = [3, 1, 1] then 3 else if cs = [3, 2] then 6 else 7
def valF (h : List Card) : Int × List Int := (placeH h, (manyL h).map Prod.snd)
theorem step_nodup {l : List Int} (h : l.Nodup) (x : Int) : (step_dedup l x).Nodup := by
  unfold step_dedup
  split
  · exact h
  · rename_i n
    rw [List.nodup_append]
    refine ⟨h, by simp, fun a ha b hb e => ?_⟩
    subst e
    have : a = x := by simpa using hb
    subst this
    exact n (by simpa using ha)
theorem step_mem {l : List Int} {x k : Int} : k ∈ step_dedup l x ↔ k ∈ l ∨ k = x := by
  unfold step_dedup
  split
  · rename_i h
    have h : x ∈ l := by simpa using h
    exact ⟨.inl, fun z => z.elim id (fun e => e ▸ h)⟩
  · rw [List.mem_append]; simp
theorem ded_nodup : ∀ (l acc : List Int), acc.Nodup → (l.foldl step_dedup acc).Nodup
  | [], _, h => h
  | a :: l, acc, h => ded_nodup l _ (step_nodup h a)
theorem ded_mem : ∀ (l acc : List Int) (k : Int), k ∈ l.foldl step_dedup acc ↔ k ∈ acc ∨ k ∈ l
  | [], _, _ => by simp
  | a :: l, acc, k => by
    rw [List.foldl_cons, ded_mem l, step_mem, List.mem_cons]
    constructor
    · rintro ((h | h) | h); exact .inl h; exact .inr (.inl h); exact .inr (.inr h)
    · rintro (h | h | h); exact .inl (.inl h); exact .inl (.inr h); exact .inr h
theorem dls_ext {l m : List Int} (h : ∀ k, k ∈ l ↔ k ∈ m) : dls l = dls m := by
  unfold dls
  refine ((List.perm_ext_iff_of_nodup (ded_nodup l [] .nil) (ded_nodup m [] .nil)).mpr fun k => ?_).length_eq
  rw [ded_mem, ded_mem, h]
theorem ded_map {f : Int → Int} (hf : ∀ a b, f a = f b → a = b) : ∀ (l acc : List Int), (l.map f).foldl step_dedup (acc.map f) = (l.foldl step_dedup acc).map f
  | [], _ => rfl
  | a :: l, acc => by
    rw [List.map_cons, List.foldl_cons, List.foldl_cons, ← ded_map hf l]
    congr 1
    unfold step_dedup
    have e : ((acc.map f).any fun x => x == f a) = acc.any fun x => x == a := by
      rw [List.any_map]; congr 1; funext x
      show (f x == f a) = (x == a)
      by_cases q : x = a
      · rw [q, beq_self_eq_true a]; exact beq_self_eq_true (f a)
      · have h1 : ¬ f x = f a := fun z => q (hf _ _ z)
        rw [beq_eq_false_iff_ne.mpr q]; exact beq_eq_false_iff_ne.mpr h1
    split
    · rename_i h
      rw [if_pos (by rw [← e]; exact h)]
    · rename_i h
      rw [if_neg (by rw [← e]; exact h), List.map_append]; rfl
theorem dls_map {f : Int → Int} (hf : ∀ a b, f a = f b → a = b) (l : List Int) : dls (l.map f) = dls l := by
  unfold dls
  have := ded_map hf l []
  rw [List.map_nil] at this
  rw [this, List.length_map]
theorem suited_perm {h m : List Card} (p : h.Perm m) : suited h = suited m := by
  unfold suited
  rw [dls_ext fun k => (p.map Prod.snd).mem_iff]
theorem valF_perm {h m : List Card} (p : h.Perm m) : valF h = valF m := by
  unfold valF placeH inRow
  rw [manyL_perm p, suited_perm p]
/-- suits exchanged -/
def turnS (s : Int) (h : List Card) : List Card := h.map fun c => (c.1, s - 1 - c.2)
theorem manyL_ranks {h m : List Card} (e : h.map Prod.fst = m.map Prod.fst) : manyL h = manyL m := by unfold manyL rowsU; rw [e]
theorem valF_turn (s : Int) (h : List Card) : valF (turnS s h) = valF h := by
  have e1 : (turnS s h).map Prod.fst = h.map Prod.fst := by unfold turnS; rw [List.map_map]; rfl
  have e2 : suited (turnS s h) = suited h := by
    unfold suited
    have : (turnS s h).map Prod.snd = (h.map Prod.snd).map fun k => s - 1 - k := by unfold turnS; rw [List.map_map, List.map_map]; rfl
    rw [this, dls_map (fun a b z => by omega)]
  unfold valF placeH inRow
  rw [manyL_ranks e1, e2]
/-- the keys of a dict that is made are what came, each once -/
theorem keys_ded {α : Type} (fk : α → Int) (fv : α → Bool) : ∀ (xs : List α) (acc : List (Key × PyData)) (ks : List Int), acc.map Prod.fst = ks.map Sum.inl → ((xs.foldl (fun l x => putP l (Sum.inl (fk x)) (PyData.bool (fv x))) acc).map Prod.fst) = ((xs.map fk).foldl step_dedup ks).map Sum.inl
  | [], _, _, h => h
  | x :: xs, acc, ks, h => by
    rw [List.foldl_cons, List.map_cons, List.foldl_cons]
    refine keys_ded fk fv xs _ _ ?_
    have e : (acc.any fun p => decide (p.1 = Sum.inl (fk x))) = ks.any fun y => y == fk x := by
      have e1 : (acc.any fun p => decide (p.1 = Sum.inl (fk x))) = (acc.map Prod.fst).any fun k => decide (k = Sum.inl (fk x)) := by rw [List.any_map]; rfl
      rw [e1, h, List.any_map]
      congr 1; funext y
      show decide ((Sum.inl y : Key) = Sum.inl (fk x)) = (y == fk x)
      by_cases q : y = fk x
      · rw [q, decide_eq_true rfl, beq_self_eq_true]
      · have h1 : ¬ (Sum.inl y : Key) = Sum.inl (fk x) := fun z => q (Sum.inl.inj z)
        rw [decide_eq_false h1, beq_eq_false_iff_ne.mpr q]
    unfold putP step_dedup
    rw [e]
    cases hq : ks.any fun y => y == fk x with
    | true =>
      rw [if_pos rfl, List.map_map, ← h]
      refine List.map_congr_left fun p _ => ?_
      show (if p.1 = Sum.inl (fk x) then (p.1, PyData.bool (fv x)) else p).1 = p.1
      split <;> rfl
    | false =>
      rw [if_neg (by decide), List.map_append, h, List.map_append]; rfl
theorem dc_len {α : Type} (fk : α → Int) (fv : α → Bool) (xs : List α) : (((xs.foldl (fun l x => putP l (Sum.inl (fk x)) (PyData.bool (fv x))) ([] : List (Key × PyData))).length : Nat) : Int) = (dls (xs.map fk) : Int) := by
  have := congrArg List.length (keys_ded fk fv xs [] [] rfl)
  rw [List.length_map, List.length_map] at this
  rw [this]; rfl
theorem cntD_take {h : List Card} {i : Nat} {c : Card} (e : h[i]? = some c) : cntD (h.take (i + 1)) = putP (cntD (h.take i)) c.1 ((valP (cntD (h.take i)) c.1).getD 0 + 1) := by
  rw [List.take_add_one, e]; exact cntD_snoc _ _
theorem cntD_take_len {h : List Card} {i : Nat} (h0 : h.length ≤ 60) : ((cntD (h.take i)).map fun (p : Int × Int) => ((Sum.inl p.1 : Key), PyData.int p.2)).length < 100000 := by
  rw [List.length_map]
  have := cntD_len (h.take i)
  rw [List.length_take] at this
  omega
theorem shp_ret (h : List Card) : eL (eP PyData.int PyData.int) ((sortX (eP PyData.int PyData.int) ((cntD (h.take h.length)).map fun (x : Int × Int) => (x.2, x.1))).reverse) = eL (eP PyData.int PyData.int) (manyL h) := by
  rw [List.take_length]; exact congrArg _ (shp_eq h)
theorem many_len (h : List Card) : (manyL h).length ≤ h.length := by
  unfold manyL rowsU
  rw [List.length_reverse, (sortX_perm ePI _).length_eq, List.length_map]
  have := sortU_len (h.map Prod.fst)
  rw [List.length_map] at this; exact this
def placeC (cs : List Int) (r s : Bool) : Int :=
  if cs = [1, 1, 1, 1, 1] then (if r && s then 8 else if s then 5 else if r then 4 else 0)
  else if cs = [2, 1, 1, 1] then 1 else if cs = [2, 2, 1] then 2 else if cs = [3, 1, 1] then 3 else if cs = [3, 2] then 6 else 7
theorem placeH_C (h : List Card) : placeH h = placeC ((manyL h).map Prod.fst) (inRow h) (suited h) := rfl
instance (n : Nat) (i : Int) : Decidable (InB n i) := inferInstanceAs (Decidable (_ ∧ _))
theorem px0 : ∀ l ∈ parts, InB l.length 0 := by decide
theorem px1 : ∀ l ∈ parts, decide ((1 : Int) < ixG l 0) = true → decide ((4 : Int) ≤ ixG l 0) = false → InB l.length 1 := by decide
theorem px4 : ∀ l ∈ parts, decide ((1 : Int) < ixG l 0) = false → l = [1, 1, 1, 1, 1] := by decide
theorem pr7 : ∀ l ∈ parts, ∀ r s, decide ((1 : Int) < ixG l 0) = true → decide ((4 : Int) ≤ ixG l 0) = true → 7 = placeC l r s := by decide
theorem pr3 : ∀ l ∈ parts, ∀ r s, decide (ixG l 0 = (3 : Int)) = true → (if decide (ixG l 1 = (2 : Int)) = true then (6 : Int) else 3) = placeC l r s := by decide
theorem pr2 : ∀ l ∈ parts, ∀ r s, decide ((1 : Int) < ixG l 0) = true → decide ((4 : Int) ≤ ixG l 0) = false → decide (ixG l 0 = (3 : Int)) = false → (if decide (ixG l 1 = (2 : Int)) = true then (2 : Int) else 1) = placeC l r s := by decide
theorem pr0 {h : List Card} (h1 : (manyL h).map Prod.fst = [1, 1, 1, 1, 1]) (r s : Bool) (hr : r = inRow h) (hs : s = suited h) : (if (r && s) = true then (8 : Int) else if s = true then 5 else if r = true then 4 else 0) = placeH h := by
  rw [placeH_C, h1, hr, hs]; rfl
abbrev sortNames : List Str := [Str.ofString "high", Str.ofString "pair", Str.ofString "pairs", Str.ofString "three", Str.ofString "row", Str.ofString "suit", Str.ofString "house", Str.ofString "four", Str.ofString "both"]
theorem place_rng (h : List Card) : 0 ≤ placeH h ∧ placeH h < 9 := by
  rw [placeH_C]; unfold placeC
  repeat' split
  all_goals decide
theorem place_ix (h : List Card) : InB 9 (placeH h) := inb (place_rng h)
end Nz

/-! k87: worths compared -/
namespace Nz
open PySem PySem.Spec PyProof.Rows L2 RZ PySem.W
abbrev Wo := Int × List Int
theorem al_ints : ∀ xs ys : List Int, alikeAll (xs.map .int) (ys.map .int) = true
  | [], _ => by cases ‹List Int› <;> rfl
  | _ :: _, [] => rfl
  | x :: xs, y :: ys => by
    show (alike (.int x) (.int y) && alikeAll (xs.map .int) (ys.map .int)) = true
    rw [al_ints xs ys]; rfl
theorem wv_al (p q : Wo) : alike (eP PyData.int (eT PyData.int) p) (eP PyData.int (eT PyData.int) q) = true := by
  show (alike (.int p.1) (.int q.1) && (alike (.tuple (p.2.map .int)) (.tuple (q.2.map .int)) && alikeAll [] [])) = true
  have : alike (.tuple (p.2.map .int)) (.tuple (q.2.map .int)) = true := al_ints _ _
  rw [this]; rfl
theorem wl_al (p q : Wo) : alike (eP PyData.int (eL PyData.int) p) (eP PyData.int (eL PyData.int) q) = true := by
  show (alike (.int p.1) (.int q.1) && (alike (.list (p.2.map .int)) (.list (q.2.map .int)) && alikeAll [] [])) = true
  have : alike (.list (p.2.map .int)) (.list (q.2.map .int)) = true := al_ints _ _
  rw [this]; rfl
def vlt (p q : Wo) : Bool := decide (p.1 < q.1 ∨ (p.1 = q.1 ∧ p.2 < q.2))
theorem eqv_tup (l m : List Int) : PyData.eqv (.tuple (l.map .int)) (.tuple (m.map .int)) = decide (l = m) := by rw [PyData.eqv, eqvAll_map]
theorem eqv_lst (l m : List Int) : PyData.eqv (.list (l.map .int)) (.list (m.map .int)) = decide (l = m) := by rw [PyData.eqv, eqvAll_map]
theorem vlt_core {p q : Wo} {b : Bool} (h : b = decide (p.2 = q.2)) {d : Bool} (h2 : d = decide (p.2 < q.2)) : (if (decide (p.1 = q.1)) = true then (if b = true then false else d) else decide (p.1 < q.1)) = vlt p q := by
  subst h h2
  unfold vlt
  by_cases e : p.1 = q.1
  · rw [if_pos (decide_eq_true e)]
    by_cases e2 : p.2 = q.2
    · rw [if_pos (decide_eq_true e2)]
      have : ¬ (p.1 < q.1 ∨ (p.1 = q.1 ∧ p.2 < q.2)) := by
        rintro (h | ⟨_, h⟩)
        · omega
        · rw [e2] at h; exact List.lt_irrefl _ h
      rw [decide_eq_false this]
    · rw [if_neg (by simpa using e2)]
      by_cases e3 : p.2 < q.2
      · rw [decide_eq_true e3, decide_eq_true (.inr ⟨e, e3⟩)]
      · rw [decide_eq_false e3, decide_eq_false (by rintro (h | ⟨_, h⟩); omega; exact e3 h)]
  · rw [if_neg (by simpa using e)]
    by_cases e3 : p.1 < q.1
    · rw [decide_eq_true e3, decide_eq_true (.inl e3)]
    · rw [decide_eq_false e3, decide_eq_false (by rintro (h | ⟨h, _⟩); exact e3 h; exact e h)]
theorem wv_lt (p q : Wo) : dataLt (eP PyData.int (eT PyData.int) p) (eP PyData.int (eT PyData.int) q) = vlt p q := by
  show dataLt (.tuple [.int p.1, .tuple (p.2.map .int)]) (.tuple [.int q.1, .tuple (q.2.map .int)]) = _
  rw [dataLt_pair rfl (show alike (.tuple (p.2.map .int)) (.tuple (q.2.map .int)) = true from al_ints _ _), eqv_int, dataLt_int]
  exact vlt_core (eqv_tup _ _) (by rw [dataLt_tuple]; exact dataLt_ints _ _)
theorem wl_lt (p q : Wo) : dataLt (eP PyData.int (eL PyData.int) p) (eP PyData.int (eL PyData.int) q) = vlt p q := by
  show dataLt (.tuple [.int p.1, .list (p.2.map .int)]) (.tuple [.int q.1, .list (q.2.map .int)]) = _
  rw [dataLt_pair rfl (show alike (.list (p.2.map .int)) (.list (q.2.map .int)) = true from al_ints _ _), eqv_int, dataLt_int]
  exact vlt_core (eqv_lst _ _) (by rw [dataLt_list]; exact dataLt_ints _ _)
theorem depI : ∀ l : List Int, PyData.depthAll (l.map PyData.int) ≤ 0
  | [] => by decide
  | a :: l => by
    show PyData.depthAll (.int a :: l.map .int) ≤ 0
    rw [PyData.depthAll]
    have := depI l
    have h : (PyData.int a).depth = 0 := rfl
    omega
theorem wv_depth (p : Wo) : (eP PyData.int (eT PyData.int) p).depth ≤ 50 := by
  rw [PyData.depth, PyData.depthAll, PyData.depthAll, PyData.depthAll]
  have h : (eT PyData.int p.2).depth ≤ 1 := by rw [PyData.depth]; have := depI p.2; omega
  have h2 : (PyData.int p.1).depth = 0 := rfl
  omega
theorem wl_depth (p : Wo) : (eP PyData.int (eL PyData.int) p).depth ≤ 50 := by
  rw [PyData.depth, PyData.depthAll, PyData.depthAll, PyData.depthAll]
  have h : (eL PyData.int p.2).depth ≤ 1 := by rw [PyData.depth]; have := depI p.2; omega
  have h2 : (PyData.int p.1).depth = 0 := rfl
  omega
theorem vlt_irr (p : Wo) : vlt p p = false := decide_eq_false (by rintro (h | ⟨_, h⟩); omega; exact List.lt_irrefl _ h)
theorem ints_tri (l m : List Int) : l < m ∨ l = m ∨ m < l := by
  by_cases h : l < m
  · exact .inl h
  · by_cases h2 : m < l
    · exact .inr (.inr h2)
    · exact .inr (.inl (List.le_antisymm (List.not_lt.mp h2) (List.not_lt.mp h)))
theorem vlt_tri (p q : Wo) : vlt p q = true ∨ p = q ∨ vlt q p = true := by
  obtain ⟨a, l⟩ := p
  obtain ⟨b, m⟩ := q
  unfold vlt
  rcases Int.lt_trichotomy a b with h | h | h
  · exact .inl (decide_eq_true (.inl h))
  · subst h
    rcases ints_tri l m with h | h | h
    · exact .inl (decide_eq_true (.inr ⟨rfl, h⟩))
    · subst h; exact .inr (.inl rfl)
    · exact .inr (.inr (decide_eq_true (.inr ⟨rfl, h⟩)))
  · exact .inr (.inr (decide_eq_true (.inl h)))
theorem vlt_tr {p q r : Wo} (h1 : vlt p q = true) (h2 : vlt q r = true) : vlt p r = true := by
  have h1 := of_decide_eq_true h1
  have h2 := of_decide_eq_true h2
  refine decide_eq_true ?_
  rcases h1 with h1 | ⟨h1, h1'⟩ <;> rcases h2 with h2 | ⟨h2, h2'⟩
  · exact .inl (by omega)
  · exact .inl (by omega)
  · exact .inl (by omega)
  · exact .inr ⟨h1.trans h2, List.lt_trans h1' h2'⟩
theorem vlt_as {p q : Wo} (h : vlt p q = true) : vlt q p = false := by
  cases e : vlt q p with
  | false => rfl
  | true => have := vlt_tr h e; rw [vlt_irr] at this; cases this
def cmpV (p q : Wo) : Int := b2i (vlt q p) - b2i (vlt p q)
theorem cmp_law (p q : Wo) : cmpV p q = if p = q then 0 else if vlt q p = true then 1 else -1 := by
  unfold cmpV
  rcases vlt_tri p q with h | h | h
  · have h2 := vlt_as h
    have ne : p ≠ q := fun e => by subst e; rw [vlt_irr] at h; cases h
    rw [if_neg ne, h, h2]; rfl
  · subst h; rw [if_pos rfl, vlt_irr]; rfl
  · have h2 := vlt_as h
    have ne : p ≠ q := fun e => by subst e; rw [vlt_irr] at h; cases h
    rw [if_neg ne, h, h2]; rfl
theorem cmp_neg (p q : Wo) : cmpV q p = 0 - cmpV p q := by unfold cmpV; omega
theorem cmp_self (p : Wo) : cmpV p p = 0 := by unfold cmpV; omega
theorem or_sub {α : Type} {P : α → Prop} {x a b : α} (h : x = a ∨ x = b) (ha : P a) (hb : P b) : P x := by
  rcases h with h | h
  · rw [h]; exact ha
  · rw [h]; exact hb
end Nz

/-! k87: packs, further cards -/
namespace Nz
open PySem PySem.Spec PyProof.Rows L2 RZ PySem.W
def l9 (t : T9) : List Int := [t.1, t.2.1, t.2.2.1, t.2.2.2.1, t.2.2.2.2.1, t.2.2.2.2.2.1, t.2.2.2.2.2.2.1, t.2.2.2.2.2.2.2.1, t.2.2.2.2.2.2.2.2]
theorem name_ix {x : Str} (h : x ∈ sortNames) : InB 9 ((sortNames.idxOf x : Nat) : Int) := inb ⟨by omega, by have := List.idxOf_lt_length_of_mem h; have e : sortNames.length = 9 := rfl; omega⟩
theorem pack_sz {r s : Int} (h : PackOk r s) : 0 ≤ r * s ∧ r * s ≤ 78 ∧ 5 ≤ r * s := by
  obtain ⟨⟨h1, h2⟩, h3, h4⟩ := h
  refine ⟨Int.mul_nonneg (by omega) (by omega), Int.le_trans (Int.mul_le_mul h2 h4 (by omega) (by decide)) (by decide), ?_⟩
  exact Int.le_trans h1 (by have := Int.mul_le_mul_of_nonneg_left h3 (show 0 ≤ r by omega); omega)
theorem whole_nz {r s : Int} (h : PackOk r s) : chI (r * s) 5 ≠ 0 := by
  have := pack_sz h
  have := chI_pos (n := r * s) (k := 5) (by omega)
  omega
theorem whole_lt {r s : Int} (h : PackOk r s) : (chI (r * s) 5).natAbs < 2 ^ 8999 := by
  have := pack_sz h
  exact Nat.lt_of_le_of_lt chI_le (Nat.pow_lt_pow_right (by decide) (by omega))
def packL (r s : Int) : List Card := (List.range r.toNat).flatMap fun (x : Nat) => (List.range s.toNat).map fun (y : Nat) => ((x : Int), (y : Int))
theorem packL_mem {r s : Int} {p : Card} : p ∈ packL r s ↔ InPk r s p := by
  unfold packL InPk
  rw [List.mem_flatMap]
  constructor
  · rintro ⟨x, hx, h⟩
    obtain ⟨y, hy, rfl⟩ := List.mem_map.mp h
    rw [List.mem_range] at hx hy
    dsimp only
    omega
  · rintro ⟨⟨h1, h2⟩, h3, h4⟩
    refine ⟨p.1.toNat, List.mem_range.mpr (by omega), List.mem_map.mpr ⟨p.2.toNat, List.mem_range.mpr (by omega), Prod.ext ?_ ?_⟩⟩
    · show ((p.1.toNat : Nat) : Int) = p.1; omega
    · show ((p.2.toNat : Nat) : Int) = p.2; omega
theorem range_lt (n : Nat) : (List.range n).Pairwise (· < ·) := List.pairwise_lt_range
theorem packL_asc (r s : Int) : (packL r s).Pairwise CardLt := by
  unfold packL
  rw [List.pairwise_flatMap]
  refine ⟨fun x _ => List.Pairwise.map _ (fun a b h => .inr ⟨rfl, by show (a : Int) < b; omega⟩) (range_lt _), (range_lt r.toNat).imp fun {a b} h p hp q hq => ?_⟩
  obtain ⟨y, _, rfl⟩ := List.mem_map.mp hp
  obtain ⟨z, _, rfl⟩ := List.mem_map.mp hq
  exact .inl (by show (a : Int) < b; omega)
theorem packL_len (r s : Int) (hr : 0 ≤ r) (hs : 0 ≤ s) : ((packL r s).length : Int) = r * s := by
  unfold packL
  rw [List.length_flatMap]
  have e : ∀ n : Nat, ((List.range n).map fun (x : Nat) => ((List.range s.toNat).map fun (y : Nat) => (((x : Int), (y : Int)) : Card)).length).sum = n * s.toNat := fun n => by
    induction n with
    | zero => simp
    | succ n ih => rw [List.range_succ, List.map_append, List.sum_append, ih, Nat.succ_mul]; simp
  rw [e, Int.natCast_mul, Int.toNat_of_nonneg hr, Int.toNat_of_nonneg hs]
theorem packL_sz {r s : Int} (h : PackOk r s) : (packL r s).length ≤ 78 := by
  have := pack_sz h
  have := packL_len r s (by have := h.1.1; omega) (by have := h.2.1; omega)
  omega
/-- what further cards make: of each sort how many -/
def drawsF (held : List Card) (l : List Card) : List Int := l.foldl (fun f c => if c ∈ held then f else f.set (placeH (held ++ [c])).toNat (ixG f (placeH (held ++ [c])) + 1)) [0, 0, 0, 0, 0, 0, 0, 0, 0]
theorem drawsF_step {held l : List Card} {i : Nat} {c : Card} (e : l[i]? = some c) : drawsF held (l.take (i + 1)) = if c ∈ held then drawsF held (l.take i) else (drawsF held (l.take i)).set (placeH (held ++ [c])).toNat (ixG (drawsF held (l.take i)) (placeH (held ++ [c])) + 1) := by
  unfold drawsF
  rw [List.take_add_one, e, List.foldl_append]; rfl
theorem drawsF_len (held l : List Card) : (drawsF held l).length = 9 := by
  refine snoc_ind (P := fun l => (drawsF held l).length = 9) rfl (fun l c ih => ?_) l
  unfold drawsF at ih ⊢
  rw [List.foldl_append]
  rw [List.foldl_cons, List.foldl_nil]
  split
  · exact ih
  · rw [List.length_set]; exact ih
theorem place_sort (held : List Card) (c : Card) : placeH (sortX (eP PyData.int PyData.int) (held ++ [c])) = placeH (held ++ [c]) := congrArg Prod.fst (valF_perm (sortX_perm ePI _))
theorem val_sort (l : List Card) : valF (sortX (eP PyData.int PyData.int) l) = valF l := valF_perm (sortX_perm ePI _)
theorem sort5 {held : List Card} (h : held.length = 4) (c : Card) : (sortX (eP PyData.int PyData.int) (held ++ [c])).length = 5 := by
  rw [(sortX_perm ePI _).length_eq, List.length_append, h]; rfl
theorem in_no {held : List Card} {c : Card} (h : (!decide (c ∈ held)) = true) : c ∉ held := by simpa using h
theorem in_yes {held : List Card} {c : Card} (h : (!decide (c ∈ held)) = false) : c ∈ held := by simpa using h
theorem dr_yes {held l : List Card} {i : Nat} {c : Card} (e : l[i]? = some c) (h : (!decide (c ∈ held)) = true) : (drawsF held (l.take i)).set (placeH (sortX (eP PyData.int PyData.int) (held ++ [c]))).toNat (ixG (drawsF held (l.take i)) (placeH (sortX (eP PyData.int PyData.int) (held ++ [c]))) + 1) = drawsF held (l.take (i + 1)) := by
  rw [drawsF_step e, if_neg (in_no h), place_sort]
theorem dr_no {held l : List Card} {i : Nat} {c : Card} (e : l[i]? = some c) (h : (!decide (c ∈ held)) = false) : drawsF held (l.take i) = drawsF held (l.take (i + 1)) := by
  rw [drawsF_step e, if_pos (in_yes h)]
end Nz

/-! k87: rows of places -/
namespace Nz
open PySem PySem.Spec PyProof.Rows L2 RZ PySem.W
def setsG (s : List (List Int)) (first : Nat) : List (List Int) := (s.filter fun (rest : List Int) => ((!(!rest.isEmpty)) || decide ((first : Int) < ixG rest (0 : Int)))).map fun (rest : List Int) => [(first : Int)] ++ rest
def setsF (many : Int) : Nat → List (List Int)
  | 0 => [[]]
  | c + 1 => (List.range many.toNat).flatMap (setsG (setsF many c))
theorem setsG_len (s : List (List Int)) (k : Nat) : (setsG s k).length ≤ s.length := by unfold setsG; rw [List.length_map]; exact List.length_filter_le _ _
theorem flat_len {α β : Type} (f : α → List β) (n : Nat) (h : ∀ x, (f x).length ≤ n) : ∀ l : List α, (l.flatMap f).length ≤ l.length * n
  | [] => by simp
  | a :: l => by
    rw [List.flatMap_cons, List.length_append, List.length_cons, Nat.succ_mul]
    have := flat_len f n h l
    have := h a
    omega
theorem sets_len {m : Int} (h : m ≤ 7) : ∀ c, (setsF m c).length ≤ 7 ^ c
  | 0 => Nat.le_refl 1
  | c + 1 => by
    show ((List.range m.toNat).flatMap (setsG (setsF m c))).length ≤ _
    refine Nat.le_trans (flat_len _ (7 ^ c) (fun x => Nat.le_trans (setsG_len _ _) (sets_len h c)) _) ?_
    rw [List.length_range, Nat.pow_succ, Nat.mul_comm]
    exact Nat.mul_le_mul_left _ (by omega)
theorem sets_sz {m : Int} (h : m ≤ 7) {c : Nat} (hc : c ≤ 4) : (setsF m c).length ≤ 2401 := Nat.le_trans (sets_len h c) (Nat.le_trans (Nat.pow_le_pow_right (by decide) hc) (by decide))
theorem sets_ext {m : Int} (h : m ≤ 7) {c : Nat} (hc : c ≤ 4) {i k : Nat} (hi : i ≤ 7) : (((List.range m.toNat).take i).flatMap (setsG (setsF m c))).length + (setsG (setsF m c) k).length ≤ 100000 := by
  have h1 := flat_len (setsG (setsF m c)) 2401 (fun x => Nat.le_trans (setsG_len _ _) (sets_sz h hc)) ((List.range m.toNat).take i)
  have h2 : ((List.range m.toNat).take i).length ≤ 7 := by rw [List.length_take]; omega
  have h3 := Nat.le_trans (setsG_len (setsF m c) k) (sets_sz h hc)
  have h4 := Nat.mul_le_mul_right 2401 h2
  omega
theorem sets_step {m : Int} {c i : Nat} {x : Nat} (e : (List.range m.toNat)[i]? = some x) : ((List.range m.toNat).take (i + 1)).flatMap (setsG (setsF m c)) = ((List.range m.toNat).take i).flatMap (setsG (setsF m c)) ++ setsG (setsF m c) x := by
  rw [List.take_add_one, e, List.flatMap_append]; simp
theorem pos_of {l : List Int} (h : (!(!l.isEmpty)) = false) : InB l.length 0 := inb ⟨by omega, by cases l with
  | nil => simp at h
  | cons a l => simp⟩
theorem sets_row {m : Int} : ∀ {c : Nat} {r : List Int}, r ∈ setsF m c → r.length = c
  | 0, r, h => by
    have : r = [] := by simpa [setsF] using h
    rw [this]; rfl
  | c + 1, r, h => by
    obtain ⟨x, _, h⟩ := List.mem_flatMap.mp h
    obtain ⟨s, hs, rfl⟩ := List.mem_map.mp h
    have := sets_row (List.mem_filter.mp hs).1
    rw [List.length_append, this, Nat.add_comm]; rfl
theorem sets_mem {m : Int} : ∀ {c : Nat} {r : List Int}, r ∈ setsF m c → ∀ {a : Int}, a ∈ r → 0 ≤ a ∧ a < m
  | 0, r, h, a, ha => by
    have : r = [] := by simpa [setsF] using h
    rw [this] at ha; cases ha
  | c + 1, r, h, a, ha => by
    obtain ⟨x, hx, h⟩ := List.mem_flatMap.mp h
    obtain ⟨s, hs, rfl⟩ := List.mem_map.mp h
    rw [List.mem_range] at hx
    rcases List.mem_append.mp ha with ha | ha
    · have : a = x := by simpa using ha
      omega
    · exact sets_mem (List.mem_filter.mp hs).1 ha
def pickC (cards : List Card) (row : List Int) : List Card := row.map fun (j : Int) => ixG cards j
def bestS (b : Option (List Card)) (h : List Card) : Option (List Card) := if (b.isNone || vlt (valF (b.getD default)) (valF h)) = true then some h else b
def bestO (cards : List Card) (rows : List (List Int)) : Option (List Card) := rows.foldl (fun b r => bestS b (pickC cards r)) none
theorem bestO_step {cards : List Card} {rows : List (List Int)} {i : Nat} {r : List Int} (e : rows[i]? = some r) : bestO cards (rows.take (i + 1)) = bestS (bestO cards (rows.take i)) (pickC cards r) := by
  unfold bestO
  rw [List.take_add_one, e, List.foldl_append]; rfl
theorem bestO_in (cards : List Card) : ∀ (rows : List (List Int)) (h : List Card), bestO cards rows = some h → ∃ r ∈ rows, h = pickC cards r := by
  refine fun rows => snoc_ind (P := fun rows => ∀ h, bestO cards rows = some h → ∃ r ∈ rows, h = pickC cards r) (fun h e => by cases e) (fun l r ih h e => ?_) rows
  have e2 : bestO cards (l ++ [r]) = bestS (bestO cards l) (pickC cards r) := by unfold bestO; rw [List.foldl_append]; rfl
  rw [e2] at e
  unfold bestS at e
  split at e
  · exact ⟨r, List.mem_append_right _ (List.mem_cons_self ..), (Option.some.inj e).symm⟩
  · obtain ⟨q, hq, h2⟩ := ih h e
    exact ⟨q, List.mem_append_left _ hq, h2⟩
theorem best_len {cards : List Card} {m : Int} {i : Nat} (h : (bestO cards ((setsF m 5).take i)).isNone = false) : ((bestO cards ((setsF m 5).take i)).getD default).length = 5 := by
  cases e : bestO cards ((setsF m 5).take i) with
  | none => rw [e] at h; cases h
  | some x =>
    obtain ⟨r, hr, e2⟩ := bestO_in _ _ _ e
    show x.length = 5
    rw [e2]; unfold pickC
    rw [List.length_map]; exact sets_row (List.mem_of_mem_take hr)
theorem bs_yes {cards : List Card} {rows : List (List Int)} {i : Nat} {r : List Int} (e : rows[i]? = some r) (h : ((bestO cards (rows.take i)).isNone || dataLt (eP PyData.int (eT PyData.int) (valF ((bestO cards (rows.take i)).getD default))) (eP PyData.int (eT PyData.int) (valF (r.map fun (j : Int) => ixG cards j)))) = true) :
    some (r.map fun (j : Int) => ixG cards j) = bestO cards (rows.take (i + 1)) := by
  rw [wv_lt] at h
  rw [bestO_step e]; unfold bestS
  rw [if_pos (by exact h)]; rfl
theorem bs_no {cards : List Card} {rows : List (List Int)} {i : Nat} {r : List Int} (e : rows[i]? = some r) (h : ((bestO cards (rows.take i)).isNone || dataLt (eP PyData.int (eT PyData.int) (valF ((bestO cards (rows.take i)).getD default))) (eP PyData.int (eT PyData.int) (valF (r.map fun (j : Int) => ixG cards j)))) = false) :
    bestO cards (rows.take i) = bestO cards (rows.take (i + 1)) := by
  rw [wv_lt] at h
  rw [bestO_step e]; unfold bestS
  rw [if_neg (by intro z; unfold pickC at z; rw [h] at z; cases z)]
theorem is67 {l : List Card} (h : 6 ≤ l.length ∧ l.length ≤ 7) : (!(([((6 : Int), (7 : Int)).1, ((6 : Int), (7 : Int)).2].map fun (x : Int) => decide ((l.length : Int) = x)).any id)) = false := by
  rcases (by omega : l.length = 6 ∨ l.length = 7) with e | e <;> rw [e] <;> decide
theorem bestS_some (b : Option (List Card)) (h : List Card) : (bestS b h).isSome = true := by
  unfold bestS
  cases b with
  | none => rfl
  | some x => split <;> rfl
theorem bestO_some (cards : List Card) {rows : List (List Int)} (h : rows ≠ []) : (bestO cards rows).isSome = true :=
  snoc_ind (P := fun rows => rows ≠ [] → (bestO cards rows).isSome = true) (fun h => absurd rfl h) (fun l r _ _ => by
    unfold bestO
    rw [List.foldl_append]
    exact bestS_some _ _) rows h
theorem sets_ne : ∀ n : Fin 2, setsF ((n.val : Int) + 6) 5 ≠ [] := by decide +kernel
theorem best_some {cards : List Card} (h : 6 ≤ cards.length ∧ cards.length ≤ 7) : (bestO cards (setsF (cards.length : Int) 5)).isSome = true := by
  refine bestO_some cards ?_
  rcases (by omega : cards.length = 6 ∨ cards.length = 7) with e | e <;> rw [e]
  · exact sets_ne 0
  · exact sets_ne 1
end Nz

/-! k87: duels -/
namespace Nz
open PySem PySem.Spec PyProof.Rows L2 RZ PySem.W
def restL (pack a b : List Card) : List Card := pack.filter fun c => (!decide (c ∈ a)) && !decide (c ∈ b)
def cls (p q : Wo) : Int := if vlt q p = true then 0 else if p = q then 1 else 2
theorem cls_rng (p q : Wo) : 0 ≤ cls p q ∧ cls p q < 3 := by
  unfold cls
  repeat' split
  all_goals decide
theorem cls_eq (p q : Wo) : (if dataLt (eP PyData.int (eT PyData.int) q) (eP PyData.int (eT PyData.int) p) = true then (0 : Int) else if PyData.eqv (eP PyData.int (eT PyData.int) p) (eP PyData.int (eT PyData.int) q) = true then 1 else 2) = cls p q := by
  unfold cls
  rw [wv_lt, EqE.eq (f := eP PyData.int (eT PyData.int)) p q]
  by_cases h : p = q
  · rw [decide_eq_true h, if_pos (rfl : true = true), if_pos h]
  · rw [decide_eq_false h, if_neg (by decide : ¬ false = true), if_neg h]
def bump (l : List Int) (k : Int) : List Int := l.set k.toNat (ixG l k + 1)
def duelI (a b : List Card) (one : Card) (acc : List Int) (l : List Card) : List Int := l.foldl (fun f other => if other = one then f else bump f (cls (valF (a ++ [one])) (valF (b ++ [other])))) acc
def duelO (a b left : List Card) (l : List Card) : List Int := l.foldl (fun f one => duelI a b one f left) [0, 0, 0]
theorem duelI_step {a b : List Card} {one : Card} {acc : List Int} {l : List Card} {i : Nat} {c : Card} (e : l[i]? = some c) : duelI a b one acc (l.take (i + 1)) = if c = one then duelI a b one acc (l.take i) else bump (duelI a b one acc (l.take i)) (cls (valF (a ++ [one])) (valF (b ++ [c]))) := by
  unfold duelI
  rw [List.take_add_one, e, List.foldl_append]; rfl
theorem duelI_len (a b : List Card) (one : Card) (acc : List Int) (l : List Card) : (duelI a b one acc l).length = acc.length := by
  refine snoc_ind (P := fun l => (duelI a b one acc l).length = acc.length) rfl (fun l c ih => ?_) l
  unfold duelI at ih ⊢
  rw [List.foldl_append, List.foldl_cons, List.foldl_nil]
  split
  · exact ih
  · unfold bump; rw [List.length_set]; exact ih
theorem duelO_step {a b left l : List Card} {i : Nat} {c : Card} (e : l[i]? = some c) : duelO a b left (l.take (i + 1)) = duelI a b c (duelO a b left (l.take i)) left := by
  unfold duelO
  rw [List.take_add_one, e, List.foldl_append]; rfl
theorem duelO_len (a b left l : List Card) : (duelO a b left l).length = 3 := by
  refine snoc_ind (P := fun l => (duelO a b left l).length = 3) rfl (fun l c ih => ?_) l
  unfold duelO at ih ⊢
  rw [List.foldl_append, List.foldl_cons, List.foldl_nil, duelI_len]; exact ih
theorem du_ne {x y : Card} (h : (!PyData.eqv (eP PyData.int PyData.int x) (eP PyData.int PyData.int y)) = true) : ¬ x = y := by
  rw [EqE.eq (f := eP PyData.int PyData.int) x y] at h; simpa using h
theorem du_eq {x y : Card} (h : (!PyData.eqv (eP PyData.int PyData.int x) (eP PyData.int PyData.int y)) = false) : x = y := by
  rw [EqE.eq (f := eP PyData.int PyData.int) x y] at h; simpa using h
theorem du_yes {a b : List Card} {one : Card} {acc : List Int} {l : List Card} {i : Nat} {c : Card} (e : l[i]? = some c) (h : (!PyData.eqv (eP PyData.int PyData.int c) (eP PyData.int PyData.int one)) = true) {k : Int} (hk : k = cls (valF (sortX (eP PyData.int PyData.int) (a ++ [one]))) (valF (sortX (eP PyData.int PyData.int) (b ++ [c])))) :
    (duelI a b one acc (l.take i)).set k.toNat (ixG (duelI a b one acc (l.take i)) k + 1) = duelI a b one acc (l.take (i + 1)) := by
  rw [duelI_step e, if_neg (du_ne h), hk, val_sort, val_sort]; rfl
theorem du_no {a b : List Card} {one : Card} {acc : List Int} {l : List Card} {i : Nat} {c : Card} (e : l[i]? = some c) (h : (!PyData.eqv (eP PyData.int PyData.int c) (eP PyData.int PyData.int one)) = false) :
    duelI a b one acc (l.take i) = duelI a b one acc (l.take (i + 1)) := by
  rw [duelI_step e, if_pos (du_eq h)]
theorem du_out {a b left : List Card} {i : Nat} {c : Card} (e : left[i]? = some c) : duelI a b c (duelO a b left (left.take i)) (left.take left.length) = duelO a b left (left.take (i + 1)) := by
  rw [duelO_step e, List.take_length]
theorem rest_eq (pack a b : List Card) : ((pack.filter fun (x : Card) => ((!decide (x ∈ a)) && (!decide (x ∈ b)))).map fun (x : Card) => x) = restL pack a b := by
  rw [List.map_id']; rfl
theorem none_of {a b : List Card} (h : ∀ c ∈ a, c ∉ b) : (!((a.filter fun (x : Card) => decide (x ∈ b)).map fun (_ : Card) => (1 : Int)).isEmpty) = false := by
  rw [List.filter_eq_nil_iff.mpr (fun c hc => by simpa using h c hc)]; rfl
theorem rest_sz {r s : Int} (h : PackOk r s) (a b : List Card) : (restL (packL r s) a b).length ≤ 78 := Nat.le_trans (List.length_filter_le _ _) (packL_sz h)
theorem two_nz {n : Nat} (h : 2 ≤ n) : (n : Int) * ((n : Int) - 1) ≠ 0 := Int.mul_ne_zero (by omega) (by omega)
theorem two_lt {n : Nat} (h : 2 ≤ n) (h2 : n ≤ 78) : ((n : Int) * ((n : Int) - 1)).natAbs < 2 ^ 8999 := by
  have h1 : (n : Int) * ((n : Int) - 1) ≤ 78 * 77 := Int.mul_le_mul (by omega) (by omega) (by omega) (by decide)
  have h0 : 0 ≤ (n : Int) * ((n : Int) - 1) := Int.mul_nonneg (by omega) (by omega)
  exact small_lt (by omega)
/-- the chances of a duel -/
def duelF (a b left : List Card) : List Rat := (duelO a b left left).map fun (k : Int) => Rat.divInt k ((left.length : Int) * ((left.length : Int) - 1))
end Nz

/-! k87: the law's own side -/
namespace Nz
open PySem PySem.Spec PyProof.Rows L2 RZ PySem.W
theorem max_rows {r : Int} : maxOf [0, r - 4] = if r - 4 > 0 then r - 4 else 0 := by
  show max (max 0 0) (r - 4) = _
  split <;> omega
theorem rng14 : rngX (1 : Int) (5 : Int) = [1, 2, 3, 4] := by decide
theorem unl4 (f : Int → Int) : PyData.list (((rngX (1 : Int) (5 : Int)).map f).map PyData.int) = PyData.list ([f 1, f 2, f 3, f 4].map PyData.int) := by rw [rng14]; rfl
theorem rng_memX {a b x : Int} (h : x ∈ rngX a b) : a ≤ x ∧ x < b := by
  unfold rngX at h
  obtain ⟨i, hi, rfl⟩ := List.mem_map.mp h
  rw [List.mem_range] at hi
  omega
def placeD (cs : List Int) : Int := if cs = [1, 1, 1, 1, 1] then 0 else if cs = [2, 1, 1, 1] then 1 else if cs = [2, 2, 1] then 2 else if cs = [3, 1, 1] then 3 else if cs = [3, 2] then 6 else 7
theorem ite_dec {α : Type} {p : Prop} [Decidable p] {b : Bool} (h : b = decide p) (x y : α) : (if b = true then x else y) = if p then x else y := by
  subst h
  by_cases q : p
  · rw [if_pos (decide_eq_true q), if_pos q]
  · rw [if_neg (by simpa using q), if_neg q]
theorem rep5 : (List.replicate ((5 : Int)).toNat [(1 : Int)]).flatten = [1, 1, 1, 1, 1] := by decide
theorem placeE (cs : List Int) : (if PyData.eqv (eL PyData.int cs) (eL PyData.int (List.replicate ((5 : Int)).toNat [(1 : Int)]).flatten) = true then (0 : Int) else (if PyData.eqv (eL PyData.int cs) (eL PyData.int [(2 : Int), (1 : Int), (1 : Int), (1 : Int)]) = true then (1 : Int)
    else (if PyData.eqv (eL PyData.int cs) (eL PyData.int [(2 : Int), (2 : Int), (1 : Int)]) = true then (2 : Int) else (if PyData.eqv (eL PyData.int cs) (eL PyData.int [(3 : Int), (1 : Int), (1 : Int)]) = true then (3 : Int)
    else (if PyData.eqv (eL PyData.int cs) (eL PyData.int [(3 : Int), (2 : Int)]) = true then (6 : Int) else (7 : Int)))))) = placeD cs := by
  rw [rep5]
  unfold placeD
  rw [ite_dec (EqE.eq (f := eL PyData.int) _ _), ite_dec (EqE.eq (f := eL PyData.int) _ _), ite_dec (EqE.eq (f := eL PyData.int) _ _), ite_dec (EqE.eq (f := eL PyData.int) _ _), ite_dec (EqE.eq (f := eL PyData.int) _ _)]
theorem placeD_0 : ∀ l ∈ parts, placeD l = 0 → l = [1, 1, 1, 1, 1] := by decide
theorem placeD_C : ∀ l ∈ parts, ∀ r s, placeD l ≠ 0 → placeD l = placeC l r s := by decide
theorem ranks_mem (h : List Card) (x : Int) : x ∈ h.map Prod.fst ↔ x ∈ (manyL h).map Prod.snd := by
  rw [List.mem_map (l := manyL h)]
  constructor
  · intro hx
    exact ⟨((((h.map Prod.fst).count x : Nat) : Int), x), manyL_mem.mpr ⟨hx, rfl⟩, rfl⟩
  · rintro ⟨p, hp, rfl⟩
    exact (manyL_mem.mp hp).1
theorem minOf_le2 {l : List Int} {y : Int} (h : y ∈ l) : minOf l ≤ y := (foldl_min_le l _).2 y h
theorem minOf_mem2 {l : List Int} (h : 0 < l.length) : minOf l ∈ l := by
  cases l with
  | nil => simp at h
  | cons x l =>
    unfold minOf
    rcases foldl_min_mem (x :: l) x with e | e
    · show (x :: l).foldl min x ∈ _
      rw [e]; exact List.mem_cons_self ..
    · exact e
theorem row_eq {h : List Card} (h5 : h.length = 5) (h1 : (manyL h).map Prod.fst = [1, 1, 1, 1, 1]) : decide (maxOf (h.map Prod.fst) - minOf (h.map Prod.fst) = 4) = inRow h := by
  unfold inRow
  have hd := manyL_desc h
  have hm := ranks_mem h
  have hl : 0 < (h.map Prod.fst).length := by rw [List.length_map]; omega
  generalize manyL h = rows at h1 hd hm ⊢
  have len := congrArg List.length h1
  rw [List.length_map] at len
  match rows, len with
  | [a, b, c, d, e], _ =>
    simp only [List.map_cons, List.map_nil, List.cons.injEq, and_true] at h1
    obtain ⟨ha, hb, hc, hd', he⟩ := h1
    simp only [List.pairwise_cons, List.mem_cons, List.not_mem_nil, or_false, forall_eq_or_imp, forall_eq, CardLt] at hd
    simp only [List.map_cons, List.map_nil, List.mem_cons, List.not_mem_nil, or_false] at hm
    have m1 := maxOf_mem hl
    have m2 := minOf_mem2 hl
    have m3 := maxOf_ge ((hm a.2).mpr (.inl rfl))
    have m4 := minOf_le2 ((hm e.2).mpr (.inr (.inr (.inr (.inr rfl)))))
    have m5 := (hm _).mp m1
    have m6 := (hm _).mp m2
    have e1 : maxOf (h.map Prod.fst) = a.2 := by omega
    have e2 : minOf (h.map Prod.fst) = e.2 := by omega
    rw [e1, e2]; rfl
theorem val_ret {h : List Card} {x : Int} {m : List Card} (hx : x = placeH h) (hm : m = manyL h) : eP PyData.int (eL PyData.int) (x, m.map fun (p : Int × Int) => p.2) = eP PyData.int (eL PyData.int) (valF h) := by
  rw [hx, hm]; rfl
theorem pack_step {l : List Nat} {n : Nat} {i x : Nat} (e : l[i]? = some x) : ((l.take (i + 1)).flatMap fun (x : Nat) => (List.range n).map fun (y : Nat) => (((x : Int), (y : Int)) : Card)) = ((l.take i).flatMap fun (x : Nat) => (List.range n).map fun (y : Nat) => (((x : Int), (y : Int)) : Card)) ++ (List.range n).map fun (y : Nat) => (((x : Int), (y : Int)) : Card) := by
  rw [List.take_add_one, e, List.flatMap_append]; simp
theorem pack_ext {r s : Int} (h : PackOk r s) {i x : Nat} (hi : i ≤ 13) : (((List.range r.toNat).take i).flatMap fun (x : Nat) => (List.range s.toNat).map fun (y : Nat) => (((x : Int), (y : Int)) : Card)).length + ((List.range s.toNat).map fun (y : Nat) => (((x : Int), (y : Int)) : Card)).length ≤ 100000 := by
  have h1 := h.2
  have h2 := flat_len (fun (x : Nat) => (List.range s.toNat).map fun (y : Nat) => (((x : Int), (y : Int)) : Card)) 6 (fun x => by rw [List.length_map, List.length_range]; omega) ((List.range r.toNat).take i)
  have h3 : ((List.range r.toNat).take i).length ≤ 13 := by rw [List.length_take]; omega
  have h4 := Nat.mul_le_mul_right 6 h3
  rw [List.length_map, List.length_range]
  omega
end Nz

namespace Nz
open PySem PySem.Spec PyProof.Rows L2 RZ PySem.W
/-! hands that are drawn -/
theorem cutX_mem {α : Type} {l : List α} {lo hi : Option Int} {x : α} (h : x ∈ cutX l lo hi) : x ∈ l := List.mem_of_mem_drop (List.mem_of_mem_take h)
theorem near_ok {l near : List Card} {P : Int → Prop} (h : ∃ m, (∃ k, P k ∧ m = maxOf [1, k]) ∧ near = cutX l none (some m)) (hl : 0 < l.length) : 0 < near.length ∧ (∀ x ∈ near, x ∈ l) ∧ near.length ≤ l.length := by
  obtain ⟨m, ⟨k, _, hm⟩, rfl⟩ := h
  refine ⟨?_, fun x hx => cutX_mem hx, by unfold cutX; rw [List.length_take, List.length_drop]; omega⟩
  have h1 : (1 : Int) ≤ m := by rw [hm]; exact maxOf_ge (List.mem_cons_self ..)
  have e : HT.sIx l.length l.length (some m) = min m.toNat l.length := by
    show (if m < 0 then _ else min m.toNat l.length) = _
    rw [if_neg (by omega)]
  unfold cutX
  rw [e, List.length_take, List.length_drop]
  show 0 < min (min m.toNat l.length - 0) (l.length - 0)
  omega
theorem app_in {near : List Card} {x : Card} (h : ∃ (w : List Card) (y : Int), w = near ∧ (0 ≤ y ∧ y < (near.length : Int)) ∧ x = ixG near y) : x ∈ near := by
  obtain ⟨_, y, _, hy, e⟩ := h
  rw [e]; exact ixG_mem hy
theorem inb_last {α : Type} (l : List α) (x : α) : InB (l ++ [x]).length (-1) := by
  rw [List.length_append]
  show InB (l.length + 1) (-1)
  exact ⟨by omega, by omega⟩
theorem hand_len {b : List Card × List Card} {pack : List Card} {i : Nat} {many : Int} (h : (b.1 ++ b.2).Perm pack ∧ b.2.length = i) (hi : i < many.toNat) (hm : many ≤ pack.length) : 0 < b.1.length := by
  have h1 := h.1.length_eq
  rw [List.length_append] at h1
  omega
theorem hand_step {b : List Card × List Card} {pack : List Card} {i : Nat} {x : Card} (h : (b.1 ++ b.2).Perm pack ∧ b.2.length = i) (hx : x ∈ b.1) : ((b.1.erase (ixG (b.2 ++ [x]) (-1))) ++ (b.2 ++ [x])).Perm pack ∧ (b.2 ++ [x]).length = i + 1 := by
  rw [ixG_last]
  refine ⟨?_, by rw [List.length_append, h.2]; rfl⟩
  refine List.Perm.trans ?_ h.1
  rw [← List.append_assoc]
  refine List.perm_append_comm.trans ?_
  rw [← List.append_assoc]
  exact List.Perm.append_right _ (List.perm_cons_erase hx).symm
theorem hand_end {b : List Card × List Card} {pack : List Card} {many : Int} (h0 : pack.Pairwise CardLt ∧ pack.length ≤ 78) (h : (b.1 ++ b.2).Perm pack ∧ b.2.length = (List.range many.toNat).length) :
    (sortX (eP PyData.int PyData.int) b.2).Pairwise CardLt ∧ (sortX (eP PyData.int PyData.int) b.2).length = many.toNat ∧ ∀ c ∈ sortX (eP PyData.int PyData.int) b.2, c ∈ pack := by
  have hp := sortX_perm ePI b.2
  have hn : b.2.Nodup := (List.nodup_append.mp (h.1.nodup_iff.mpr (asc_nodupC h0.1))).2.1
  refine ⟨asc_strictC (sortC_asc _) (hp.nodup_iff.mpr hn), ?_, fun c hc => h.1.mem_iff.mp (List.mem_append_right _ (hp.mem_iff.mp hc))⟩
  rw [hp.length_eq, h.2, List.length_range]
/-! all fives of some cards -/
def fiveR (rows : List (List Card)) (c : Card) : List (List Card) := rows ++ (rows.filter fun (row : List Card) => decide ((row.length : Int) < 5)).map fun (row : List Card) => row ++ [c]
def fiveL (cards : List Card) : List (List Card) := cards.foldl fiveR [[]]
def fivesL (cards : List Card) : List (List Card) := (fiveL cards).filter fun (row : List Card) => decide ((row.length : Int) = 5)
theorem fiveL_step {cards : List Card} {i : Nat} {c : Card} (e : cards[i]? = some c) : fiveL (cards.take (i + 1)) = fiveR (fiveL (cards.take i)) c := by
  unfold fiveL
  rw [List.take_add_one, e, List.foldl_append]; rfl
theorem fiveR_len (rows : List (List Card)) (c : Card) : (fiveR rows c).length ≤ 2 * rows.length := by
  unfold fiveR
  rw [List.length_append, List.length_map]
  have := List.length_filter_le (fun (row : List Card) => decide ((row.length : Int) < 5)) rows
  omega
theorem fiveL_len (cards : List Card) : (fiveL cards).length ≤ 2 ^ cards.length := by
  refine snoc_ind (P := fun cards => (fiveL cards).length ≤ 2 ^ cards.length) (Nat.le_refl _) (fun l c ih => ?_) cards
  have e : fiveL (l ++ [c]) = fiveR (fiveL l) c := by unfold fiveL; rw [List.foldl_append]; rfl
  rw [e, List.length_append, List.length_singleton, Nat.pow_succ]
  have := fiveR_len (fiveL l) c
  omega
theorem fiveL_sz {cards : List Card} {i : Nat} (h : cards.length ≤ 7) : (fiveL (cards.take i)).length ≤ 128 := by
  refine Nat.le_trans (fiveL_len _) (Nat.le_trans (Nat.pow_le_pow_right (by decide) (show (cards.take i).length ≤ 7 by rw [List.length_take]; omega)) (by decide))
theorem fiveL_in (cards : List Card) : ∀ row ∈ fiveL cards, row.Sublist cards := by
  refine snoc_ind (P := fun cards => ∀ row ∈ fiveL cards, row.Sublist cards) (fun row h => ?_) (fun l c ih row h => ?_) cards
  · have : row = [] := by simpa [fiveL] using h
    rw [this]; exact List.Sublist.refl _
  · have e : fiveL (l ++ [c]) = fiveR (fiveL l) c := by unfold fiveL; rw [List.foldl_append]; rfl
    rw [e] at h
    rcases List.mem_append.mp h with h | h
    · exact (ih row h).trans (List.sublist_append_left _ _)
    · obtain ⟨r, hr, rfl⟩ := List.mem_map.mp h
      exact (ih r (List.mem_filter.mp hr).1).append (List.Sublist.refl _)
theorem fives_sz {cards : List Card} (h : cards.length ≤ 7) : (fivesL cards).length ≤ 128 := by
  refine Nat.le_trans (List.length_filter_le _ _) ?_
  have := fiveL_sz (i := cards.length) h
  rw [List.take_length] at this; exact this
theorem five_add {cards : List Card} {i : Nat} (h : cards.length ≤ 7) (c : Card) : (fiveL (cards.take i)).length + (((fiveL (cards.take i)).filter fun (row : List Card) => decide ((row.length : Int) < 5)).map fun (row : List Card) => row ++ [c]).length ≤ 100000 := by
  have h1 := fiveL_sz (i := i) h
  have h2 := fiveR_len (fiveL (cards.take i)) c
  unfold fiveR at h2
  rw [List.length_append] at h2
  omega
theorem fives_row {cards row : List Card} (h : row ∈ fivesL cards) : row.length = 5 ∧ row.Sublist cards := by
  obtain ⟨h1, h2⟩ := List.mem_filter.mp h
  have := of_decide_eq_true h2
  exact ⟨by omega, fiveL_in _ _ h1⟩
theorem five_ret (cards : List Card) : ((fiveL (cards.take cards.length)).filter fun (row : List Card) => decide ((row.length : Int) = (5 : Int))).map (fun (row : List Card) => row) = fivesL cards := by
  rw [List.map_id', List.take_length]; rfl
theorem cmp_ret (p q : Wo) : (if PyData.eqv (eP PyData.int (eL PyData.int) p) (eP PyData.int (eL PyData.int) q) = true then (0 : Int) else if dataLt (eP PyData.int (eL PyData.int) q) (eP PyData.int (eL PyData.int) p) = true then 1 else (-(1 : Int))) = cmpV p q := by
  rw [cmp_law, wl_lt, ite_dec (EqE.eq (f := eP PyData.int (eL PyData.int)) p q)]
end Nz

/-! k87: hands in order; the best of six or seven cards -/
namespace Nz
open PySem PySem.Spec PyProof.Rows L2 RZ PySem.W
def hlt : List Card → List Card → Bool
  | [], [] => false
  | [], _ :: _ => true
  | _ :: _, [] => false
  | x :: xs, y :: ys => if x = y then hlt xs ys else decide (CardLt x y)
theorem row_hlt : ∀ xs ys : List Card, rowLt (xs.map ePI) (ys.map ePI) = hlt xs ys
  | [], [] => by
    have e : rowLt [] [] = false := lex_irrefl _
    exact e
  | [], y :: ys => by
    show rowLt [] (ePI y :: ys.map ePI) = true
    unfold rowLt
    rw [toks_all_cons]
    simp only [keyToksAll]
    rw [lex_diff (O := itemOrd) (by simp)]; rfl
  | x :: xs, [] => by
    show rowLt (ePI x :: xs.map ePI) [] = false
    unfold rowLt
    rw [toks_all_cons]
    simp only [keyToksAll]
    rw [lex_diff (O := itemOrd) (by simp)]; rfl
  | x :: xs, y :: ys => by
    have ih := row_hlt xs ys
    unfold rowLt at ih ⊢
    show PyProof.Rows.lexLt itemOrd (keyToksAll (ePI x :: xs.map ePI)) (keyToksAll (ePI y :: ys.map ePI)) = _
    rw [dataLt_cons (card_alike x y), ih, ite_dec (EqE.eq (f := ePI) x y), card_lt]
    rfl
theorem hd_lt (xs ys : List Card) : dataLt (eT ePI xs) (eT ePI ys) = hlt xs ys := by
  show dataLt (.tuple (xs.map ePI)) (.tuple (ys.map ePI)) = _
  rw [dataLt_tuple]
  exact row_hlt xs ys
theorem hlt_irr : ∀ xs : List Card, hlt xs xs = false
  | [] => rfl
  | x :: xs => by
    show (if x = x then hlt xs xs else _) = false
    rw [if_pos rfl, hlt_irr xs]
theorem hlt_tri : ∀ xs ys : List Card, hlt xs ys = true ∨ xs = ys ∨ hlt ys xs = true
  | [], [] => .inr (.inl rfl)
  | [], _ :: _ => .inl rfl
  | _ :: _, [] => .inr (.inr rfl)
  | x :: xs, y :: ys => by
    show (if x = y then hlt xs ys else decide (CardLt x y)) = true ∨ _ ∨ (if y = x then hlt ys xs else decide (CardLt y x)) = true
    by_cases e : x = y
    · subst e
      rw [if_pos rfl, if_pos rfl]
      rcases hlt_tri xs ys with h | h | h
      · exact .inl h
      · exact .inr (.inl (by rw [h]))
      · exact .inr (.inr h)
    · rw [if_neg e, if_neg (fun h => e h.symm)]
      rcases card_tri x y with h | h | h
      · exact .inl (decide_eq_true h)
      · exact absurd h e
      · exact .inr (.inr (decide_eq_true h))
theorem hlt_tr : ∀ {xs ys zs : List Card}, hlt xs ys = true → hlt ys zs = true → hlt xs zs = true
  | [], [], _, h, _ => by cases h
  | [], _ :: _, [], _, h => by cases h
  | [], _ :: _, _ :: _, _, _ => rfl
  | _ :: _, [], _, h, _ => by cases h
  | _ :: _, _ :: _, [], _, h => by cases h
  | x :: xs, y :: ys, z :: zs, h1, h2 => by
    have h1 : (if x = y then hlt xs ys else decide (CardLt x y)) = true := h1
    have h2 : (if y = z then hlt ys zs else decide (CardLt y z)) = true := h2
    show (if x = z then hlt xs zs else decide (CardLt x z)) = true
    by_cases e1 : x = y
    · subst e1
      rw [if_pos rfl] at h1
      by_cases e2 : x = z
      · subst e2
        rw [if_pos rfl] at h2 ⊢
        exact hlt_tr h1 h2
      · rw [if_neg e2] at h2 ⊢; exact h2
    · rw [if_neg e1] at h1
      have h1 := of_decide_eq_true h1
      by_cases e2 : y = z
      · subst e2
        rw [if_neg e1]; exact decide_eq_true h1
      · rw [if_neg e2] at h2
        have h2 := of_decide_eq_true h2
        have h3 := card_tr h1 h2
        rw [if_neg (fun e => by subst e; exact card_irr _ h3)]; exact decide_eq_true h3
abbrev eH : List Card → PyData := eT (eP PyData.int PyData.int)
theorem le_hand (p q : List Card) : dataLe false eH p q = !hlt q p := by rw [dataLe_eq]; show (!dataLt _ _) = _; rw [hd_lt]
theorem sortH_asc (l : List (List Card)) : (sortX eH l).Pairwise fun p q => hlt q p = false := by
  have h := List.pairwise_mergeSort (le := dataLe false eH) (fun a b c h1 h2 => by
    rw [le_hand] at *
    simp only [Bool.not_eq_true'] at *
    cases h : hlt c a with
    | false => rfl
    | true =>
      rcases hlt_tri a b with h3 | h3 | h3
      · have := hlt_tr h h3; rw [h2] at this; cases this
      · subst h3; rw [h2] at h; cases h
      · rw [h1] at h3; cases h3) (fun a b => by
    rw [le_hand, le_hand]
    cases h : hlt b a with
    | false => rfl
    | true =>
      cases h2 : hlt a b with
      | false => rfl
      | true => have := hlt_tr h h2; rw [hlt_irr] at this; cases this) l
  exact h.imp fun {a b} z => by rw [le_hand] at z; simpa using z
theorem sortH_un {l ys : List (List Card)} (h : ys.Perm l) (h2 : ys.Pairwise fun p q => hlt p q = true) : ys = sortX eH l :=
  List.Perm.eq_of_pairwise (le := fun p q => hlt q p = false) (fun a b _ _ h1 h2 => by
    rcases hlt_tri a b with h | h | h
    · rw [h2] at h; cases h
    · exact h
    · rw [h1] at h; cases h) (h2.imp fun {a b} z => by
      cases e : hlt b a with
      | false => rfl
      | true => have := hlt_tr z e; rw [hlt_irr] at this; cases this) (sortH_asc l) (h.trans (sortX_perm eH l).symm)
/-! places in rows -/
def ilt : List Int → List Int → Bool
  | [], [] => false
  | [], _ :: _ => true
  | _ :: _, [] => false
  | x :: xs, y :: ys => if x = y then ilt xs ys else decide (x < y)
theorem ilt_pick {g : Int → Card} {n : Int} (hg : ∀ a b, 0 ≤ a → a < b → b < n → CardLt (g a) (g b)) : ∀ {xs ys : List Int}, (∀ a ∈ xs, 0 ≤ a ∧ a < n) → (∀ a ∈ ys, 0 ≤ a ∧ a < n) → ilt xs ys = true → hlt (xs.map g) (ys.map g) = true
  | [], [], _, _, h => by cases h
  | [], _ :: _, _, _, _ => rfl
  | _ :: _, [], _, _, h => by cases h
  | x :: xs, y :: ys, h1, h2, h => by
    have h : (if x = y then ilt xs ys else decide (x < y)) = true := h
    show (if g x = g y then hlt (xs.map g) (ys.map g) else decide (CardLt (g x) (g y))) = true
    by_cases e : x = y
    · subst e
      rw [if_pos rfl] at h ⊢
      exact ilt_pick hg (fun a ha => h1 a (List.mem_cons_of_mem _ ha)) (fun a ha => h2 a (List.mem_cons_of_mem _ ha)) h
    · rw [if_neg e] at h
      have h := of_decide_eq_true h
      have h3 := hg x y (h1 x (List.mem_cons_self ..)).1 h (h2 y (List.mem_cons_self ..)).2
      rw [if_neg (fun q => by rw [q] at h3; exact card_irr _ h3)]; exact decide_eq_true h3
def fiveI (js : List Int) : List (List Int) := js.foldl (fun rows c => rows ++ (rows.filter fun (row : List Int) => decide ((row.length : Int) < 5)).map fun (row : List Int) => row ++ [c]) [[]]
theorem fiveL_map (g : Int → Card) (js : List Int) : fiveL (js.map g) = (fiveI js).map (List.map g) := by
  refine snoc_ind (P := fun js => fiveL (js.map g) = (fiveI js).map (List.map g)) rfl (fun l c ih => ?_) js
  have e1 : fiveL ((l ++ [c]).map g) = fiveR (fiveL (l.map g)) (g c) := by rw [List.map_append]; unfold fiveL; rw [List.foldl_append]; rfl
  have e2 : fiveI (l ++ [c]) = fiveI l ++ ((fiveI l).filter fun (row : List Int) => decide ((row.length : Int) < 5)).map fun (row : List Int) => row ++ [c] := by unfold fiveI; rw [List.foldl_append]; rfl
  rw [e1, e2, ih]
  unfold fiveR
  rw [List.map_append, List.filter_map, List.map_map, List.map_map]
  congr 1
  have e3 : ((fun (row : List Card) => decide ((row.length : Int) < 5)) ∘ List.map g) = fun (row : List Int) => decide ((row.length : Int) < 5) := by
    funext row; show decide (((row.map g).length : Int) < 5) = _; rw [List.length_map]
  rw [e3]
  refine List.map_congr_left fun row _ => ?_
  show row.map g ++ [g c] = (row ++ [c]).map g
  rw [List.map_append]; rfl
theorem fives_map (g : Int → Card) (js : List Int) : fivesL (js.map g) = ((fiveI js).filter fun (row : List Int) => decide ((row.length : Int) = 5)).map (List.map g) := by
  unfold fivesL
  rw [fiveL_map, List.filter_map]
  congr 1
  have e3 : ((fun (row : List Card) => decide ((row.length : Int) = 5)) ∘ List.map g) = fun (row : List Int) => decide ((row.length : Int) = 5) := by
    funext row; show decide (((row.map g).length : Int) = 5) = _; rw [List.length_map]
  rw [e3]
def idxs (n : Nat) : List Int := (List.range n).map fun (j : Nat) => (j : Int)
theorem sets_perm : ∀ n : Fin 2, (setsF ((n.val : Int) + 6) 5).Perm ((fiveI (idxs (n.val + 6))).filter fun (row : List Int) => decide ((row.length : Int) = 5)) := by decide +kernel
theorem sets_asc : ∀ n : Fin 2, (setsF ((n.val : Int) + 6) 5).Pairwise fun r s => ilt r s = true := by decide +kernel
theorem cards_pick (cards : List Card) : (idxs cards.length).map (fun (j : Int) => ixG cards j) = cards := by
  unfold idxs
  rw [List.map_map]; exact list_rng cards
/-- the fives in order are what the program tries in order -/
theorem fives_eq {cards : List Card} (hc : cards.Pairwise CardLt) (h : 6 ≤ cards.length ∧ cards.length ≤ 7) : sortX eH (fivesL cards) = (setsF (cards.length : Int) 5).map (pickC cards) := by
  refine (sortH_un ?_ ?_).symm
  · have e := fives_map (fun (j : Int) => ixG cards j) (idxs cards.length)
    rw [cards_pick] at e
    rw [e]
    refine List.Perm.map _ ?_
    rcases (by omega : cards.length = 6 ∨ cards.length = 7) with q | q <;> rw [q]
    · exact sets_perm 0
    · exact sets_perm 1
  · refine List.Pairwise.map _ (fun a b (z : (ilt a b = true ∧ (∀ x ∈ a, 0 ≤ x ∧ x < (cards.length : Int)) ∧ ∀ x ∈ b, 0 ≤ x ∧ x < (cards.length : Int))) => ?_) (R := fun r s => ilt r s = true ∧ (∀ x ∈ r, 0 ≤ x ∧ x < (cards.length : Int)) ∧ ∀ x ∈ s, 0 ≤ x ∧ x < (cards.length : Int)) ?_
    · refine ilt_pick (g := fun (j : Int) => ixG cards j) (n := cards.length) (fun i j h0 h1 h2 => ?_) z.2.1 z.2.2 z.1
      exact asc_card hc (ixG_some ⟨h0, by omega⟩) (ixG_some ⟨by omega, h2⟩) (by omega)
    · have h1 : (setsF (cards.length : Int) 5).Pairwise fun r s => ilt r s = true := by
        rcases (by omega : cards.length = 6 ∨ cards.length = 7) with q | q <;> rw [q]
        · exact sets_asc 0
        · exact sets_asc 1
      refine List.Pairwise.imp_of_mem (fun {a b} ha hb z => ⟨z, fun x hx => sets_mem ha hx, fun x hx => sets_mem hb hx⟩) h1
/-! the first of the greatest -/
def bestF (hs : List (List Card)) : Option (List Card) := hs.foldl bestS none
theorem bestO_F (cards : List Card) (rows : List (List Int)) : bestO cards rows = bestF (rows.map (pickC cards)) := by
  unfold bestO bestF
  rw [List.foldl_map]
theorem bestF_first (hs : List (List Card)) : ∀ b, bestF hs = some b → ∃ pre post, hs = pre ++ b :: post ∧ (∀ h ∈ pre, vlt (valF h) (valF b) = true) ∧ ∀ h ∈ post, vlt (valF b) (valF h) = false := by
  refine snoc_ind (P := fun hs => ∀ b, bestF hs = some b → ∃ pre post, hs = pre ++ b :: post ∧ (∀ h ∈ pre, vlt (valF h) (valF b) = true) ∧ ∀ h ∈ post, vlt (valF b) (valF h) = false) (fun b h => by cases h) (fun l r ih b h => ?_) hs
  have e : bestF (l ++ [r]) = bestS (bestF l) r := by unfold bestF; rw [List.foldl_append]; rfl
  rw [e] at h
  unfold bestS at h
  split at h
  · rename_i hc
    have h := Option.some.inj h
    subst h
    refine ⟨l, [], rfl, fun x hx => ?_, fun x hx => by cases hx⟩
    cases q : bestF l with
    | none =>
      cases l with
      | nil => cases hx
      | cons a l' =>
        have : (bestF (a :: l')).isSome = true := by
          refine snoc_ind (P := fun m => m ≠ [] → (bestF m).isSome = true) (fun z => absurd rfl z) (fun m r _ _ => ?_) (a :: l') (by simp)
          unfold bestF
          rw [List.foldl_append]; exact bestS_some _ _
        rw [q] at this; cases this
    | some b0 =>
      rw [q] at hc
      have hc : vlt (valF b0) (valF r) = true := hc
      obtain ⟨pre, post, rfl, h1, h2⟩ := ih b0 q
      rcases List.mem_append.mp hx with hx | hx
      · exact vlt_tr (h1 x hx) hc
      · rcases List.mem_cons.mp hx with hx | hx
        · rw [hx]; exact hc
        · rcases vlt_tri (valF x) (valF b0) with z | z | z
          · exact vlt_tr z hc
          · rw [z]; exact hc
          · rw [h2 x hx] at z; cases z
  · rename_i hc
    obtain ⟨pre, post, rfl, h1, h2⟩ := ih b h
    refine ⟨pre, post ++ [r], by simp, h1, fun x hx => ?_⟩
    rcases List.mem_append.mp hx with hx | hx
    · exact h2 x hx
    · have : x = r := by simpa using hx
      rw [this]
      rw [h] at hc
      have hc : ¬ (false || vlt (valF b) (valF r)) = true := hc
      simpa using hc
def goodB (fs : List (List Card)) (row : List Card) : Bool := !(!((fs.filter fun (other : List Card) => decide ((0 : Int) < cmpV (valF other) (valF row))).map fun (other : List Card) => other).isEmpty)
theorem cmp_pos (p q : Wo) : decide ((0 : Int) < cmpV p q) = vlt q p := by
  rw [cmp_law]
  rcases vlt_tri p q with h | h | h
  · have ne : p ≠ q := fun e => by subst e; rw [vlt_irr] at h; cases h
    rw [if_neg ne, vlt_as h]; rfl
  · subst h; rw [if_pos rfl, vlt_irr]; rfl
  · have ne : p ≠ q := fun e => by subst e; rw [vlt_irr] at h; cases h
    rw [if_neg ne, h]; rfl
theorem good_iff (fs : List (List Card)) (row : List Card) : goodB fs row = true ↔ ∀ o ∈ fs, vlt (valF row) (valF o) = false := by
  unfold goodB
  rw [Bool.not_not, List.isEmpty_iff, List.map_id', List.filter_eq_nil_iff]
  simp only [cmp_pos, Bool.not_eq_true]
theorem good_first {fs : List (List Card)} {b : List Card} (h : bestF fs = some b) : b ∈ fs ∧ ∃ rest, fs.filter (goodB fs) = b :: rest := by
  obtain ⟨pre, post, e, h1, h2⟩ := bestF_first fs b h
  have hb : b ∈ fs := by rw [e]; exact List.mem_append_right _ (List.mem_cons_self ..)
  refine ⟨hb, ?_⟩
  have g1 : ∀ x ∈ pre, ¬ goodB fs x = true := fun x hx hg => by
    have := (good_iff fs x).mp hg b hb
    rw [h1 x hx] at this; cases this
  have g2 : goodB fs b = true := (good_iff fs b).mpr fun o ho => by
    rw [e] at ho
    rcases List.mem_append.mp ho with ho | ho
    · exact vlt_as (h1 o ho)
    · rcases List.mem_cons.mp ho with ho | ho
      · rw [ho]; exact vlt_irr _
      · exact h2 o ho
  have e2 : fs.filter (goodB fs) = (pre ++ b :: post).filter (goodB fs) := congrArg (List.filter (goodB fs)) e
  refine ⟨post.filter (goodB fs), ?_⟩
  rw [e2, List.filter_append, List.filter_cons, if_pos g2, List.filter_eq_nil_iff.mpr g1]; rfl
theorem best_good {cards : List Card} (hc : cards.Pairwise CardLt) (h : 6 ≤ cards.length ∧ cards.length ≤ 7) : (bestO cards (setsF (cards.length : Int) 5)).getD default ∈ sortX eH (fivesL cards) ∧ ∃ rest, (sortX eH (fivesL cards)).filter (goodB (sortX eH (fivesL cards))) = (bestO cards (setsF (cards.length : Int) 5)).getD default :: rest := by
  have e := bestO_F cards (setsF (cards.length : Int) 5)
  rw [← fives_eq hc h] at e
  have hs := best_some h
  cases q : bestO cards (setsF (cards.length : Int) 5) with
  | none => rw [q] at hs; cases hs
  | some b =>
    rw [e] at q
    exact good_first q
end Nz

/-! k87: what the law draws -/
namespace Nz
open PySem PySem.Spec PyProof.Rows L2 RZ PySem.W
theorem pack_in {r s : Int} {pack : List Card} (e : pack = packL r s) {l : List Card} (h1 : l.Pairwise CardLt) (h2 : ∀ c ∈ l, c ∈ pack) : CardsOk r s l := ⟨fun p hp => packL_mem.mp (e ▸ h2 p hp), h1⟩
theorem hands_ok {r s : Int} {pack : List Card} (e : pack = packL r s) {ks : List Nat} {hands : List (List Card)} (h : Fa (fun (_ : Nat) (z : List Card) => z.Pairwise CardLt ∧ z.length = (5 : Int).toNat ∧ ∀ c ∈ z, c ∈ pack) ks hands) : ∀ l ∈ hands, CardsOk r s l ∧ l.length = 5 := fun l hl => by
  obtain ⟨x, _, hx⟩ := h.mem l hl
  exact ⟨pack_in e hx.1 hx.2.2, hx.2.1⟩
theorem turned_ok {r s : Int} {h v : List Card} (e : v = sortX (eP PyData.int PyData.int) (h.map fun (x : Int × Int) => (x.1, (s - (1 : Int)) - x.2))) (hc : CardsOk r s h) (h5 : h.length = 5) : valF v = valF h ∧ CardsOk r s v ∧ v.length = 5 := by
  have p := sortX_perm ePI (turnS s h)
  have e : v = sortX ePI (turnS s h) := e
  rw [e]
  refine ⟨(valF_perm p).trans (valF_turn s h), ⟨fun q hq => ?_, asc_strictC (sortC_asc _) (p.nodup_iff.mpr ?_)⟩, ?_⟩
  · obtain ⟨c, hcm, rfl⟩ := List.mem_map.mp (p.mem_iff.mp hq)
    obtain ⟨⟨a1, a2⟩, a3, a4⟩ := hc.1 c hcm
    exact ⟨⟨a1, a2⟩, by show 0 ≤ s - 1 - c.2; omega, by show s - 1 - c.2 < s; omega⟩
  · unfold turnS
    refine List.Pairwise.map _ (fun a b ne q => ne ?_) (asc_nodupC hc.2)
    have q1 := congrArg Prod.fst q
    have q2 := congrArg Prod.snd q
    dsimp only at q1 q2
    exact Prod.ext q1 (by omega)
  · rw [p.length_eq]; unfold turnS; rw [List.length_map, h5]
theorem place_of {h v : List Card} (e : valF v = valF h) : placeH v = placeH h := congrArg Prod.fst e
theorem if_names {h v : List Card} (e : valF v = valF h) : ¬ ((!decide (ixG sortNames (placeH h) = ixG sortNames ((valF h).1))) || (!decide (ixG sortNames (placeH v) = ixG sortNames (placeH h)))) = true := by
  rw [place_of e, show (valF h).1 = placeH h from rfl, decide_eq_true rfl]; decide
theorem if_cmp0 {h v : List Card} (e : valF v = valF h) : ¬ (!decide (cmpV (valF h) (valF v) = (0 : Int))) = true := by
  rw [e, cmp_self]; decide
theorem if_cmp2 (p q : Wo) : ¬ ((!decide (cmpV p q = cmpV p q)) || (!decide (cmpV q p = ((0 : Int) - cmpV p q)))) = true := by
  rw [cmp_neg p q, decide_eq_true rfl, decide_eq_true rfl]; decide
theorem pre67 {pack p : List Card} {y : Int} (e : p = pack) (h : ∃ a b : Int, a = 6 ∧ (0 ≤ b ∧ b < 2) ∧ y = 6 + b) (hp : decide ((pack.length : Int) < 7) = false) : 0 ≤ y ∧ y ≤ p.length := by
  obtain ⟨a, b, _, hb, rfl⟩ := h
  have := of_decide_eq_false hp
  rw [e]; omega
theorem cards_ok {pack v : List Card} (h : ∃ x : List Card × Int × Unit, (x.1 = pack ∧ (∃ a b : Int, a = 6 ∧ (0 ≤ b ∧ b < 2) ∧ x.2.1 = 6 + b) ∧ True) ∧ (v.Pairwise CardLt ∧ v.length = x.2.1.toNat ∧ ∀ c ∈ v, c ∈ x.1)) : v.Pairwise CardLt ∧ (6 ≤ v.length ∧ v.length ≤ 7) ∧ ∀ c ∈ v, c ∈ pack := by
  obtain ⟨x, ⟨e, ⟨a, b, _, hb, e2⟩, _⟩, h1, h2, h3⟩ := h
  rw [e2] at h2
  exact ⟨h1, by omega, fun c hc => e ▸ h3 c hc⟩
theorem hd_al (l : List (List Card)) : AllAlike (l.map (eT (eP PyData.int PyData.int))) := AllAlike.of fun p q => by
  show alikeAll (p.map ePI) (q.map ePI) = true
  induction p generalizing q with
  | nil => cases q <;> rfl
  | cons x p ih =>
    cases q with
    | nil => rfl
    | cons y q =>
      show (alike (ePI x) (ePI y) && alikeAll (p.map ePI) (q.map ePI)) = true
      rw [ih q, card_alike]; rfl
theorem hd_so {cards : List Card} : Sortable (((fivesL cards).map fun (x : List Card) => x).map (eT (eP PyData.int PyData.int))) := .inl fun d hd => by
  rw [List.map_id'] at hd
  obtain ⟨b, hb, rfl⟩ := List.mem_map.mp hd
  have h5 := (fives_row hb).1
  cases b with
  | nil => cases h5
  | cons x b => exact ⟨_, _, rfl⟩
theorem fives5 {cards : List Card} {fv : List (List Card)} (e : fv = sortX eH (fivesL cards)) : ∀ r ∈ fv, r.length = 5 := fun r hr => by
  rw [e] at hr
  exact (fives_row ((sortX_perm eH _).mem_iff.mp hr)).1
theorem fives_le {cards : List Card} {fv : List (List Card)} (e : fv = sortX eH (fivesL cards)) (h : cards.length ≤ 7) : fv.length ≤ 128 := by
  rw [e, (sortX_perm eH _).length_eq]; exact fives_sz h
theorem hands_ret {cards : List Card} {fv : List (List Card)} (e : fv = sortX eH (fivesL cards)) (hc : cards.Pairwise CardLt) (h : 6 ≤ cards.length ∧ cards.length ≤ 7) {b : List Card} (hb : b = (bestO cards (setsF (cards.length : Int) 5)).getD default) {gl : List (List Card)} (hg : gl = fv.filter (goodB fv)) :
    (decide (b ∈ fv) && (decide ((0 : Int) < (gl.length : Int)) && PyData.eqv (eT (eP PyData.int PyData.int) b) (eT (eP PyData.int PyData.int) (ixG gl (0 : Int))))) = true := by
  obtain ⟨h1, rest, h2⟩ := best_good hc h
  rw [← hb, ← e] at h1 h2
  rw [hg, h2, decide_eq_true h1, decide_eq_true (by rw [List.length_cons]; omega), show ixG (b :: rest) (0 : Int) = b from ixG_nat (j := 0) rfl, EqE.eq (f := eT (eP PyData.int PyData.int)), decide_eq_true rfl]; rfl
end Nz

/-! k87: duels counted -/
namespace Nz
open PySem PySem.Spec PyProof.Rows L2 RZ PySem.W
def tri (ks : List Int) : List Int := [((ks.count 0 : Nat) : Int), ((ks.count 1 : Nat) : Int), ((ks.count 2 : Nat) : Int)]
theorem bump_0 (x y z : Int) : bump [x, y, z] 0 = [x + 1, y, z] := rfl
theorem bump_1 (x y z : Int) : bump [x, y, z] 1 = [x, y + 1, z] := rfl
theorem bump_2 (x y z : Int) : bump [x, y, z] 2 = [x, y, z + 1] := rfl
theorem tri_bump (ks : List Int) {k : Int} (h : 0 ≤ k ∧ k < 3) : bump (tri ks) k = tri (ks ++ [k]) := by
  unfold tri
  rcases (by omega : k = 0 ∨ k = 1 ∨ k = 2) with e | e | e <;> subst e
  · rw [bump_0]; simp [List.count_append]
  · rw [bump_1]; simp [List.count_append]
  · rw [bump_2]; simp [List.count_append]
def rowK (a b left : List Card) (x : Card) : List Int := (left.filter fun y => !decide (y = x)).map fun y => cls (valF (a ++ [x])) (valF (b ++ [y]))
theorem duelI_tri (a b : List Card) (one : Card) (ks : List Int) (l : List Card) : duelI a b one (tri ks) l = tri (ks ++ rowK a b l one) := by
  refine snoc_ind (P := fun l => duelI a b one (tri ks) l = tri (ks ++ rowK a b l one)) (by unfold duelI rowK; simp) (fun l c ih => ?_) l
  have e1 : duelI a b one (tri ks) (l ++ [c]) = if c = one then duelI a b one (tri ks) l else bump (duelI a b one (tri ks) l) (cls (valF (a ++ [one])) (valF (b ++ [c]))) := by unfold duelI; rw [List.foldl_append]; rfl
  rw [e1, ih]
  unfold rowK
  rw [List.filter_append, List.map_append]
  by_cases e : c = one
  · rw [if_pos e]
    have : ([c].filter fun y => !decide (y = one)) = [] := by simp [e]
    rw [this, List.map_nil, List.append_nil]
  · rw [if_neg e, tri_bump _ (cls_rng _ _)]
    have : ([c].filter fun y => !decide (y = one)) = [c] := by simp [e]
    rw [this, List.append_assoc]; rfl
theorem duelO_tri (a b left l : List Card) : duelO a b left l = tri (l.flatMap (rowK a b left)) := by
  refine snoc_ind (P := fun l => duelO a b left l = tri (l.flatMap (rowK a b left))) rfl (fun l c ih => ?_) l
  have e1 : duelO a b left (l ++ [c]) = duelI a b c (duelO a b left l) left := by unfold duelO; rw [List.foldl_append]; rfl
  rw [e1, ih, duelI_tri, List.flatMap_append]
  simp
def pairsL (left : List Card) : List (Card × Card) := left.flatMap fun x => (left.filter fun y => !decide (y = x)).map fun y => (x, y)
def clsP (a b : List Card) (p : Card × Card) : Int := cls (valF (a ++ [p.1])) (valF (b ++ [p.2]))
theorem flat_map {α β γ : Type} (f : β → γ) (g : α → List β) : ∀ l : List α, (l.flatMap g).map f = l.flatMap fun x => (g x).map f
  | [] => rfl
  | a :: l => by rw [List.flatMap_cons, List.map_append, flat_map f g l, List.flatMap_cons]
theorem duel_pairs (a b left : List Card) : duelO a b left left = tri ((pairsL left).map (clsP a b)) := by
  rw [duelO_tri]
  unfold pairsL
  rw [flat_map]
  congr 2
  funext x
  unfold rowK
  rw [List.map_map]; rfl
theorem pairs_mem {left : List Card} {p : Card × Card} : p ∈ pairsL left ↔ p.1 ∈ left ∧ p.2 ∈ left ∧ p.2 ≠ p.1 := by
  unfold pairsL
  rw [List.mem_flatMap]
  constructor
  · rintro ⟨x, hx, h⟩
    obtain ⟨y, hy, rfl⟩ := List.mem_map.mp h
    obtain ⟨h1, h2⟩ := List.mem_filter.mp hy
    exact ⟨hx, h1, by simpa using h2⟩
  · rintro ⟨h1, h2, h3⟩
    exact ⟨p.1, h1, List.mem_map.mpr ⟨p.2, List.mem_filter.mpr ⟨h2, by simpa using h3⟩, rfl⟩⟩
theorem pairs_nodup {left : List Card} (h : left.Nodup) : (pairsL left).Nodup := by
  unfold pairsL
  rw [List.Nodup, List.pairwise_flatMap]
  refine ⟨fun x _ => List.Pairwise.map _ (fun a b ne q => ne (congrArg Prod.snd q)) (h.filter _), h.imp fun {a b} ne p hp q hq e => ?_⟩
  obtain ⟨y, _, rfl⟩ := List.mem_map.mp hp
  obtain ⟨z, _, rfl⟩ := List.mem_map.mp hq
  exact ne (congrArg Prod.fst e)
theorem pairs_swap {left : List Card} (h : left.Nodup) : ((pairsL left).map fun p => (p.2, p.1)).Perm (pairsL left) := by
  have n1 : ((pairsL left).map fun p => (p.2, p.1)).Nodup := List.Pairwise.map _ (fun a b ne q => ne (Prod.ext (congrArg Prod.snd q) (congrArg Prod.fst q))) (pairs_nodup h)
  refine (List.perm_ext_iff_of_nodup n1 (pairs_nodup h)).mpr fun p => ?_
  rw [List.mem_map]
  constructor
  · rintro ⟨q, hq, rfl⟩
    obtain ⟨h1, h2, h3⟩ := pairs_mem.mp hq
    exact pairs_mem.mpr ⟨h2, h1, fun e => h3 e.symm⟩
  · intro hp
    obtain ⟨h1, h2, h3⟩ := pairs_mem.mp hp
    exact ⟨(p.2, p.1), pairs_mem.mpr ⟨h2, h1, fun e => h3 e.symm⟩, rfl⟩
theorem cls_swap (p q : Wo) : cls q p = 2 - cls p q := by
  unfold cls
  rcases vlt_tri p q with h | h | h
  · have ne : p ≠ q := fun e => by subst e; rw [vlt_irr] at h; cases h
    have h2 := vlt_as h
    rw [if_pos h, if_neg (by rw [h2]; decide), if_neg ne]; rfl
  · subst h
    rw [if_neg (by rw [vlt_irr]; decide), if_pos rfl]; rfl
  · have ne : p ≠ q := fun e => by subst e; rw [vlt_irr] at h; cases h
    have h2 := vlt_as h
    rw [if_neg (by rw [h2]; decide), if_neg (fun e => ne e.symm), if_pos h]; rfl
theorem tri_perm {k l : List Int} (h : k.Perm l) : tri k = tri l := by unfold tri; rw [h.count_eq, h.count_eq, h.count_eq]
theorem count_two (t : Int) : ∀ ks : List Int, (ks.map fun k => 2 - k).count t = ks.count (2 - t)
  | [] => rfl
  | k :: ks => by
    rw [List.map_cons, List.count_cons, List.count_cons, count_two t ks]
    congr 1
    by_cases e : 2 - k = t
    · have e2 : k = 2 - t := by omega
      rw [e, e2]; simp
    · have e2 : ¬ k = 2 - t := by omega
      simp [e, e2]
theorem tri_two (ks : List Int) : tri (ks.map fun k => 2 - k) = (tri ks).reverse := by
  unfold tri
  rw [count_two, count_two, count_two]; rfl
theorem duel_swap {a b left : List Card} (h : left.Nodup) : duelO b a left left = (duelO a b left left).reverse := by
  rw [duel_pairs, duel_pairs, ← tri_two]
  have e : (pairsL left).map (clsP b a) = ((pairsL left).map fun p => (p.2, p.1)).map fun p => 2 - clsP a b p := by
    rw [List.map_map]
    refine List.map_congr_left fun p _ => ?_
    exact cls_swap _ _
  rw [e]
  exact (tri_perm ((pairs_swap h).map fun p => 2 - clsP a b p)).trans (by rw [List.map_map]; rfl)
theorem tri_sum : ∀ {ks : List Int}, (∀ k ∈ ks, 0 ≤ k ∧ k < 3) → (tri ks).sum = ks.length
  | [], _ => rfl
  | k :: ks, h => by
    have ih := tri_sum fun x hx => h x (List.mem_cons_of_mem _ hx)
    have hk := h k (List.mem_cons_self ..)
    unfold tri at ih ⊢
    simp only [List.count_cons, List.sum_cons, List.sum_nil, List.length_cons] at ih ⊢
    rcases (by omega : k = 0 ∨ k = 1 ∨ k = 2) with e | e | e <;> subst e <;> simp <;> omega
theorem filter_len {x : Card} : ∀ {l : List Card}, l.Nodup → x ∈ l → (l.filter fun y => !decide (y = x)).length = l.length - 1
  | [], _, h => by cases h
  | a :: l, n, h => by
    rw [List.nodup_cons] at n
    by_cases e : a = x
    · subst e
      rw [List.filter_cons, if_neg (by simp), List.filter_eq_self.mpr (fun y hy => by
        have : ¬ y = a := fun q => n.1 (q ▸ hy)
        simp [this])]
      rfl
    · have hm : x ∈ l := by
        rcases List.mem_cons.mp h with h | h
        · exact absurd h.symm e
        · exact h
      have := List.length_pos_of_mem hm
      rw [List.filter_cons, if_pos (by simp [e]), List.length_cons, filter_len n.2 hm, List.length_cons]
      omega
theorem flat_cnt {α β : Type} (f : α → List β) (n : Nat) : ∀ {l : List α}, (∀ x ∈ l, (f x).length = n) → (l.flatMap f).length = l.length * n
  | [], _ => by simp
  | a :: l, h => by
    rw [List.flatMap_cons, List.length_append, List.length_cons, Nat.succ_mul, flat_cnt f n fun x hx => h x (List.mem_cons_of_mem _ hx), h a (List.mem_cons_self ..)]
    omega
theorem duel_sum {a b left : List Card} (h : left.Nodup) (h2 : 1 ≤ left.length) : (duelO a b left left).sum = (left.length : Int) * ((left.length : Int) - 1) := by
  rw [duel_pairs, tri_sum (fun k hk => by obtain ⟨p, _, rfl⟩ := List.mem_map.mp hk; exact cls_rng _ _), List.length_map]
  unfold pairsL
  rw [flat_cnt _ (left.length - 1) (fun x hx => by rw [List.length_map]; exact filter_len h hx), Int.natCast_mul]
  congr 1
  omega
theorem tri_le (ks : List Int) : ∀ x ∈ tri ks, 0 ≤ x ∧ x ≤ ks.length := fun x hx => by
  unfold tri at hx
  have h0 := List.count_le_length (a := (0 : Int)) (l := ks)
  have h1 := List.count_le_length (a := (1 : Int)) (l := ks)
  have h2 := List.count_le_length (a := (2 : Int)) (l := ks)
  simp only [List.mem_cons, List.not_mem_nil, or_false] at hx
  omega
theorem pairs_len {left : List Card} (h : left.length ≤ 78) : (pairsL left).length ≤ 6084 := by
  unfold pairsL
  have h1 := flat_len (fun x => (left.filter fun y => !decide (y = x)).map fun y => (x, y)) left.length (fun x => by rw [List.length_map]; exact List.length_filter_le _ _) left
  have h2 := Nat.mul_le_mul h h
  omega
theorem duel_q {a b left : List Card} (h2 : 2 ≤ left.length) (h78 : left.length ≤ 78) : ∀ r ∈ duelF a b left, Qk 100 r := fun r hr => by
  unfold duelF at hr
  obtain ⟨k, hk, rfl⟩ := List.mem_map.mp hr
  rw [duel_pairs] at hk
  have hk2 := tri_le _ k hk
  rw [List.length_map] at hk2
  have := pairs_len h78
  have h1 : (left.length : Int) * ((left.length : Int) - 1) ≤ 78 * 77 := Int.mul_le_mul (by omega) (by omega) (by omega) (by decide)
  have h0 : 0 < (left.length : Int) * ((left.length : Int) - 1) := Int.mul_pos (by omega) (by omega)
  have e : (2 : Nat) ^ 64 ≤ 2 ^ 100 := Nat.pow_le_pow_right (by decide) (by decide)
  exact Qk_divInt h0 (by omega) (by omega)
theorem duelF_len (a b left : List Card) : (duelF a b left).length = 3 := by unfold duelF; rw [List.length_map, duelO_len]
theorem duelF_rev {a b left : List Card} (h : left.Nodup) : duelF b a left = (duelF a b left).reverse := by
  unfold duelF
  rw [duel_swap h, List.map_reverse]
theorem restL_comm (pack a b : List Card) : restL pack b a = restL pack a b := by
  unfold restL
  refine List.filter_congr fun c _ => ?_
  rw [Bool.and_comm]
end Nz

/-! k87: two held hands and the rest of the pack -/
namespace Nz
open PySem PySem.Spec PyProof.Rows L2 RZ PySem.W
abbrev DC := Int × Card
abbrev eDC : DC → PyData := eP PyData.int (eP PyData.int PyData.int)
theorem dc_al (l : List DC) : AllAlike (l.map (eP PyData.int (eP PyData.int PyData.int))) := AllAlike.of fun _ _ => rfl
theorem dc_so (l : List DC) : Sortable (l.map (eP PyData.int (eP PyData.int PyData.int))) := Sortable.tuples fun p => ⟨_, _, rfl⟩
theorem fa_snd {P : Int → Prop} : ∀ {cs : List Card} {x : List DC}, Fa (fun (c : Card) (q : DC) => P q.1 ∧ q.2 = c) cs x → x.map Prod.snd = cs
  | _, _, .nil => rfl
  | _, _, .cons h t => by rw [List.map_cons, h.2, fa_snd t]
theorem some_perm {P : Int → Prop} {cs : List Card} {v : List DC} (h : ∃ x : List DC, Fa (fun (c : Card) (q : DC) => P q.1 ∧ q.2 = c) cs x ∧ v = sortX (eP PyData.int (eP PyData.int PyData.int)) x) : (v.map Prod.snd).Perm cs := by
  obtain ⟨x, hx, rfl⟩ := h
  have := (sortX_perm eDC x).map Prod.snd
  rw [fa_snd hx] at this; exact this
theorem split_ok {r s : Int} {pack held : List Card} {v : List DC} (e : pack = packL r s) (h : held.Pairwise CardLt ∧ held.length = (8 : Int).toNat ∧ ∀ c ∈ held, c ∈ pack) (p : (v.map Prod.snd).Perm held) {a b : List Card}
    (ha : a = sortX (eP PyData.int PyData.int) ((cutX v none (some (4 : Int))).map fun (x : DC) => x.2)) (hb : b = sortX (eP PyData.int PyData.int) ((cutX v (some (4 : Int)) none).map fun (x : DC) => x.2)) :
    (CardsOk r s a ∧ a.length = 4) ∧ (CardsOk r s b ∧ b.length = 4) ∧ (∀ c ∈ a, c ∉ b) ∧ ∀ c, c ∈ held ↔ c ∈ a ∨ c ∈ b := by
  have hl : v.length = 8 := by have := p.length_eq; rw [List.length_map] at this; rw [this]; exact h.2.1
  obtain ⟨c1, c2⟩ := cut_back v 4 ⟨by decide, by rw [hl]; decide⟩
  have h4 : (4 : Int).toNat = 4 := rfl
  rw [c2, h4] at ha
  rw [c1, h4] at hb
  have ha : a = sortX ePI ((v.take 4).map Prod.snd) := ha
  have hb : b = sortX ePI ((v.drop 4).map Prod.snd) := hb
  have pa : a.Perm ((v.take 4).map Prod.snd) := ha ▸ sortX_perm ePI _
  have pb : b.Perm ((v.drop 4).map Prod.snd) := hb ▸ sortX_perm ePI _
  have e2 : ((v.take 4).map Prod.snd) ++ ((v.drop 4).map Prod.snd) = v.map Prod.snd := by rw [← List.map_append, List.take_append_drop]
  have pab : (a ++ b).Perm held := (List.Perm.append pa pb).trans (by rw [e2]; exact p)
  have nd : (a ++ b).Nodup := pab.nodup_iff.mpr (asc_nodupC h.1)
  obtain ⟨na, nb, nab⟩ := List.nodup_append.mp nd
  have hin : ∀ c, c ∈ held ↔ c ∈ a ∨ c ∈ b := fun c => by rw [← pab.mem_iff, List.mem_append]
  refine ⟨⟨pack_in e (ha ▸ asc_strictC (sortC_asc _) (ha ▸ na)) fun c hc => h.2.2 c ((hin c).mpr (.inl hc)), ?_⟩, ⟨pack_in e (hb ▸ asc_strictC (sortC_asc _) (hb ▸ nb)) fun c hc => h.2.2 c ((hin c).mpr (.inr hc)), ?_⟩, fun c h1 h2 => nab c h1 c h2 rfl, hin⟩
  · rw [pa.length_eq, List.length_map, List.length_take, hl]; rfl
  · rw [pb.length_eq, List.length_map, List.length_drop, hl]
theorem rest_is {r s : Int} {pack held a b rv : List Card} (e : pack = packL r s) (hin : ∀ c, c ∈ held ↔ c ∈ a ∨ c ∈ b) (h : rv = (pack.filter fun (x : Card) => !decide (x ∈ held)).map fun (x : Card) => x) : rv = restL (packL r s) a b := by
  rw [h, List.map_id', e]
  unfold restL
  refine List.filter_congr fun c _ => ?_
  have := hin c
  by_cases h1 : c ∈ a <;> by_cases h2 : c ∈ b <;> simp [this, h1, h2]
theorem filter_split (p : Card → Bool) : ∀ l : List Card, (l.filter p).length + (l.filter fun x => !p x).length = l.length
  | [] => rfl
  | a :: l => by
    have := filter_split p l
    rw [List.filter_cons, List.filter_cons, List.length_cons]
    cases h : p a <;> simp <;> omega
theorem rest_len {pack held : List Card} (hp : pack.Pairwise CardLt) (hh : held.Pairwise CardLt) (hi : ∀ c ∈ held, c ∈ pack) : (pack.filter fun (x : Card) => !decide (x ∈ held)).length + held.length = pack.length := by
  have h1 := filter_split (fun x => decide (x ∈ held)) pack
  have h2 : (pack.filter fun x => decide (x ∈ held)).Perm held := (List.perm_ext_iff_of_nodup ((asc_nodupC hp).filter _) (asc_nodupC hh)).mpr fun c => by
    rw [List.mem_filter]
    constructor
    · rintro ⟨_, h⟩; simpa using h
    · intro h; exact ⟨hi c h, by simpa using h⟩
  rw [h2.length_eq] at h1
  omega
theorem rest_two {pack held rv : List Card} (hp : pack.Pairwise CardLt) (h : held.Pairwise CardLt ∧ held.length = (8 : Int).toNat ∧ ∀ c ∈ held, c ∈ pack) (h10 : decide ((pack.length : Int) < 10) = false) (e : rv = (pack.filter fun (x : Card) => !decide (x ∈ held)).map fun (x : Card) => x) : 2 ≤ rv.length := by
  have h1 := rest_len hp h.1 h.2.2
  have h2 : held.length = 8 := h.2.1
  have h3 := of_decide_eq_false h10
  rw [e, List.map_id']
  omega
theorem ld_yes {a pack : List Card} {i : Nat} {c : Card} (e : pack[i]? = some c) (h : (!decide (c ∈ a)) = true) : (drawsF a (pack.take i)).set ((valF (a ++ [c])).1).toNat (ixG (drawsF a (pack.take i)) ((valF (a ++ [c])).1) + 1) = drawsF a (pack.take (i + 1)) := by
  rw [drawsF_step e, if_neg (in_no h)]; rfl
theorem drawsF_le (a l : List Card) : ∀ x ∈ drawsF a l, 0 ≤ x ∧ x ≤ l.length := by
  refine snoc_ind (P := fun l => ∀ x ∈ drawsF a l, 0 ≤ x ∧ x ≤ l.length) (fun x hx => ?_) (fun l c ih x hx => ?_) l
  · have : x = 0 := by simpa [drawsF] using hx
    subst this; simp
  · have e : drawsF a (l ++ [c]) = if c ∈ a then drawsF a l else (drawsF a l).set (placeH (a ++ [c])).toNat (ixG (drawsF a l) (placeH (a ++ [c])) + 1) := by unfold drawsF; rw [List.foldl_append]; rfl
    rw [e] at hx
    rw [List.length_append, List.length_singleton]
    split at hx
    · have := ih x hx; omega
    · rcases List.mem_or_eq_of_mem_set hx with hx | hx
      · have := ih x hx; omega
      · have h9 := drawsF_len a l
        have hr := place_rng (a ++ [c])
        have := ih _ (ixG_mem (l := drawsF a l) (i := placeH (a ++ [c])) (by rw [h9]; exact hr))
        omega
theorem draws_gd {a l : List Card} (h : l.length ≤ 78) : Gd 20 15000000 (eT PyData.int (drawsF a l)) :=
  (gd_T (k := 0) (len := 601) (n := 9) (fun x hx => gd_int (by have := drawsF_le a l x hx; exact Nat.lt_of_le_of_lt (show x.natAbs ≤ 2 ^ 64 by omega) (Nat.pow_lt_pow_right (by decide) (by decide)))) (Nat.le_of_eq (drawsF_len a l))).mono (by decide) (by decide)
theorem first_ix {a rv : List Card} {l : List Wo} (h : l = rv.map fun (x : Card) => valF (a ++ [x])) {k : Nat} (hk : k < rv.length) : ixG l (k : Int) = valF (a ++ [ixG rv (k : Int)]) := by
  rw [h]
  have e1 : (rv.map fun (x : Card) => valF (a ++ [x]))[k]? = some (valF (a ++ [rv[k]])) := by rw [List.getElem?_map, List.getElem?_eq_getElem hk]; rfl
  rw [ixG_nat e1, ixG_nat (List.getElem?_eq_getElem hk)]
theorem cls_eqL (p q : Wo) : (if dataLt (eP PyData.int (eL PyData.int) q) (eP PyData.int (eL PyData.int) p) = true then (0 : Int) else if PyData.eqv (eP PyData.int (eL PyData.int) p) (eP PyData.int (eL PyData.int) q) = true then 1 else 2) = cls p q := by
  unfold cls
  rw [wl_lt, ite_dec (EqE.eq (f := eP PyData.int (eL PyData.int)) p q)]
theorem lw_yes {a b rv : List Card} {acc : List Int} {k j : Nat} (nd : rv.Nodup) (hk : k < rv.length) (hj : j < rv.length) (h : (!decide ((j : Int) = (k : Int))) = true) {t : Int} (ht : t = cls (valF (a ++ [ixG rv (k : Int)])) (valF (b ++ [ixG rv (j : Int)]))) :
    (duelI a b (ixG rv (k : Int)) acc (rv.take j)).set t.toNat (ixG (duelI a b (ixG rv (k : Int)) acc (rv.take j)) t + 1) = duelI a b (ixG rv (k : Int)) acc (rv.take (j + 1)) := by
  have ej : rv[j]? = some (ixG rv (j : Int)) := by rw [ixG_nat (List.getElem?_eq_getElem hj)]; exact List.getElem?_eq_getElem hj
  have hne : ¬ ixG rv (j : Int) = ixG rv (k : Int) := fun q => by
    rw [ixG_nat (List.getElem?_eq_getElem hj), ixG_nat (List.getElem?_eq_getElem hk)] at q
    have : j = k := by
      rcases Nat.lt_trichotomy j k with z | z | z
      · exact absurd q (List.pairwise_iff_getElem.mp nd j k hj hk z)
      · exact z
      · exact absurd q.symm (List.pairwise_iff_getElem.mp nd k j hk hj z)
    rw [this] at h; simp at h
  rw [duelI_step ej, if_neg hne, ht]; rfl
theorem lw_no {a b rv : List Card} {acc : List Int} {k j : Nat} (hj : j < rv.length) (h : (!decide ((j : Int) = (k : Int))) = false) :
    duelI a b (ixG rv (k : Int)) acc (rv.take j) = duelI a b (ixG rv (k : Int)) acc (rv.take (j + 1)) := by
  have ej : rv[j]? = some (ixG rv (j : Int)) := by rw [ixG_nat (List.getElem?_eq_getElem hj)]; exact List.getElem?_eq_getElem hj
  have : (j : Int) = (k : Int) := by simpa using h
  rw [duelI_step ej, if_pos (by rw [this])]
theorem lw_out {a b rv : List Card} {k : Nat} (hk : k < rv.length) : duelI a b (ixG rv (k : Int)) (duelO a b rv (rv.take k)) (rv.take rv.length) = duelO a b rv (rv.take (k + 1)) := by
  have ek : rv[k]? = some (ixG rv (k : Int)) := by rw [ixG_nat (List.getElem?_eq_getElem hk)]; exact List.getElem?_eq_getElem hk
  rw [duelO_step ek, List.take_length]
theorem due_is {a b rv : List Card} (nd : rv.Nodup) (h2 : 2 ≤ rv.length) : ((duelO a b rv (rv.take rv.length)).map fun (x : Int) => Rat.divInt x ((duelO a b rv (rv.take rv.length)).sum)) = duelF a b rv := by
  rw [List.take_length, duel_sum nd (by omega)]; rfl
theorem rest_nd {r s : Int} {a b rv : List Card} (e : rv = restL (packL r s) a b) : rv.Nodup := by
  rw [e]; unfold restL
  exact (asc_nodupC (packL_asc r s)).filter _
theorem duels_eq {r s : Int} {a b rv : List Card} (e : rv = restL (packL r s) a b) {dv : List Rat} (hd : dv = duelF a b rv) : eL (eT eQ) [duelF a b (restL (packL r s) a b), duelF b a (restL (packL r s) b a)] = eL (eT eQ) [dv, dv.reverse] := by
  rw [restL_comm (packL r s) a b, ← e, duelF_rev (a := a) (b := b) (rest_nd e), hd]
theorem duels_gd {r s : Int} {a b : List Card} (h2 : 2 ≤ (restL (packL r s) a b).length) (h : PackOk r s) : Gd 20 15000000 (eL (eT eQ) [duelF a b (restL (packL r s) a b), duelF b a (restL (packL r s) b a)]) := by
  have h78 := rest_sz h a b
  have g : ∀ a b : List Card, 2 ≤ (restL (packL r s) a b).length → (restL (packL r s) a b).length ≤ 78 → Gd 2 ((1209 + 2) * 3 + 3) (eT eQ (duelF a b (restL (packL r s) a b))) := fun a b h2 h78 =>
    gd_T (k := 1) (len := 1209) (n := 3) (fun x hx => (duel_q h2 h78 x hx).gd (by decide)) (Nat.le_of_eq (duelF_len _ _ _))
  refine (gd_L (k := 2) (len := (1209 + 2) * 3 + 3) (n := 2) (fun x hx => ?_) (Nat.le_refl _)).mono (by decide) (by decide)
  rcases List.mem_cons.mp hx with rfl | hx
  · exact g a b h2 h78
  · rw [List.mem_singleton.mp hx]
    exact g b a (by rw [restL_comm (packL r s) a b]; exact h2) (by rw [restL_comm (packL r s) a b]; exact h78)
theorem cutX_le {α : Type} (l : List α) (a b : Option Int) : (cutX l a b).length ≤ l.length := by unfold cutX; rw [List.length_take, List.length_drop]; omega
theorem rng_len (n : Nat) : (List.range ((n : Int)).toNat).length = n := by rw [List.length_range]; omega
end Nz

/-! k87: the law -/
namespace Nz
open PySem PySem.Spec PyProof.Rows L2 RZ PySem.W
theorem ranks_ok {r : Int} (h : ∃ x y : Int, x = 5 ∧ (0 ≤ y ∧ y < 9) ∧ r = 5 + y) : 5 ≤ r ∧ r ≤ 13 := by
  obtain ⟨_, y, _, hy, rfl⟩ := h; omega
theorem suits_ok {r : Int} (h : ∃ x y : Int, x = 1 ∧ (0 ≤ y ∧ y < 6) ∧ r = 1 + y) : 1 ≤ r ∧ r ≤ 6 := by
  obtain ⟨_, y, _, hy, rfl⟩ := h; omega
theorem l9_sum (t : T9) : (l9 t).sum = sum9 t := by
  unfold l9 sum9
  simp only [List.sum_cons, List.sum_nil]; omega
set_option synthInstance.maxHeartbeats 0 in
set_option synthInstance.maxSize 2000 in
theorem all_small : ∀ r : Fin 9, ∀ s : Fin 6, ∀ x ∈ l9 (sortsF ((r.val : Int) + 5) ((s.val : Int) + 1)), x.natAbs < 2 ^ 60 := by decide +kernel
theorem sorts_small {r s : Int} (h : PackOk r s) : ∀ x ∈ l9 (sortsF r s), x.natAbs < 2 ^ 60 := by
  obtain ⟨⟨h1, h2⟩, h3, h4⟩ := h
  have := all_small ⟨(r - 5).toNat, by omega⟩ ⟨(s - 1).toNat, by omega⟩
  have e1 : (((r - 5).toNat : Nat) : Int) + 5 = r := by omega
  have e2 : (((s - 1).toNat : Nat) : Int) + 1 = s := by omega
  dsimp only at this
  rw [e1, e2] at this
  exact this
theorem eI9_l9 (t : T9) : eI9 t = eT PyData.int (l9 t) := rfl
theorem sorts_gd {r s : Int} (h : PackOk r s) : Gd 20 15000000 (eI9 (sortsF r s)) := by
  rw [eI9_l9]
  exact (gd_T (k := 0) (len := 601) (n := 9) (fun x hx => gd_int (Nat.lt_trans (sorts_small h x hx) (Nat.pow_lt_pow_right (by decide) (by decide)))) (Nat.le_refl 9)).mono (by decide) (by decide)
theorem if_whole {r s : Int} (h : PackOk r s) : ¬ ((!true) || (!decide ((l9 (lawF r s)).sum = chI (r * s) 5))) = true := by
  rw [l9_sum, (sorts_law h).2, decide_eq_true rfl]; decide
theorem name_at : ∀ a : Fin 9, sortNames.idxOf (ixG sortNames ((a.val : Nat) : Int)) = a.val := by decide +kernel
theorem name_idx {a : Int} (h : 0 ≤ a ∧ a < 9) : ((sortNames.idxOf (ixG sortNames a) : Nat) : Int) = a := by
  have := name_at ⟨a.toNat, by omega⟩
  have e : ((a.toNat : Nat) : Int) = a := by omega
  dsimp only at this
  rw [e] at this
  rw [this]; exact e
theorem name_in {a : Int} (h : 0 ≤ a ∧ a < 9) : ixG sortNames a ∈ sortNames := ixG_mem h
theorem chance_eq {r s a : Int} (h : PackOk r s) (ha : 0 ≤ a ∧ a < 9) : Rat.divInt (ixG (l9 (sortsF r s)) ((sortNames.idxOf (ixG sortNames a) : Nat) : Int)) (chI (r * s) 5) = Rat.divInt (ixG (l9 (lawF r s)) a) (chI (r * s) 5) := by
  rw [name_idx ha, (sorts_law h).1]
theorem whole_pos {r s : Int} (h : PackOk r s) : 0 < chI (r * s) 5 := by
  have := pack_sz h
  exact chI_pos (by omega)
theorem chance_gd {r s a : Int} (h : PackOk r s) (ha : 0 ≤ a ∧ a < 9) : Gd 20 15000000 (eQ (Rat.divInt (ixG (l9 (sortsF r s)) ((sortNames.idxOf (ixG sortNames a) : Nat) : Int)) (chI (r * s) 5))) := by
  rw [name_idx ha]
  have h1 := sorts_small h _ (ixG_mem (l := l9 (sortsF r s)) (i := a) ha)
  have h2 := pack_sz h
  have h3 := chI_le (n := r * s) (k := 5)
  have h4 : 2 ^ (r * s).toNat ≤ 2 ^ 100 := Nat.pow_le_pow_right (by decide) (by omega)
  have h5 : (2 : Nat) ^ 60 ≤ 2 ^ 100 := Nat.pow_le_pow_right (by decide) (by decide)
  exact ((Qk_divInt (k := 100) (whole_pos h) (by omega) (by omega)).gd (by decide)).mono (by decide) (by decide)
end Nz

/-! the law's own head, for promises that hold where no repr is on the way -/
namespace Nz
open PySem PySem.Spec PyProof.Rows L2 RZ
/-- what a law's def promises -/
def R_top : List PyData → PyData → Prop := fun ds d => ∃ script : List Int, ds = [eL PyData.int script] ∧ script.length ≤ 100000 ∧ d = PyData.bool true
theorem hide_nil (H : Hp) : hide [] H = H := by
  funext b
  unfold hide
  rw [if_neg (fun m => nomatch m)]
theorem top_sp {K : PySem.W.Frag} {H : Hp} {a : Addr} {ns : List Int} (hl : ns.length ≤ 100000) (hq : SqL K H a (ns.map V.int)) : SpP K R_top [.ref a] H (fun v _ => v = .bl true) E0 :=
  ⟨[], [eL PyData.int ns], .bool true, fun _ m => (nomatch m), by rw [hide_nil]; exact .cons (.lst hq (dpa_ints ns)) .nil, ⟨ns, rfl, hl, rfl⟩, fun v H' _ dz => dp_bl dz⟩
section
variable {P : Program} {w : World} {K : PySem.W.Frag} {mg mb : Str → Option Value} {k : Nat} {g a : Addr} {fd : FuncData} {x : Str} {s : Shared} {us : List Value} {ns : List Int}
/-- the heap that is tracked: the script alone, if it is no part of the module -/
def soleH (K : PySem.W.Frag) (a : Addr) (ob : Obj) (ns : List Int) : Hp := fun b => if b = a then (if (K.lookup a).isSome = true then none else some (.frz ob (.lst (ns.map V.int)))) else none
theorem law_callG (inK : K.In s.heap) (nsG : s.heap.Ns mainGlobals mg) (nsB : s.heap.Ns builtinsNs mb) (bb : ∀ y : Str, y ≠ "__name__" → mb y = bootBuiltins y) (lim : s.heap.NoLimit) (gn : s.gens = #[])
    (at_a : s.heap.get? a = some { cls := .type "list", data := .seq us.toArray }) (allI : IntsAre us ns) (short : ns.length ≤ 100000) (room : Room k callerA)
    (F : ∀ base : Heap, K.In base → base.Ns mainGlobals mg → FnG P w K mg base k g fd [x] (SpP K R_top)) (bnd : ∀ (s : Shared) (u : Value), BindsTo s fd ⟨[u], []⟩ [(x, u)]) :
    codeAny (model P w) callerA (.call (.ref g) ⟨[.ref a], []⟩) (fun r t => r = .ok (.ret (.bool true)) ∧ OldK s.heap t.heap ∧ t.os = s.os ∧ AllBare t.gens) s := by
  have vals := vals_ints allI
  have cnt := allI.length
  have size : ns.length ≤ sizeLine := Nat.le_trans short (by decide)
  let ob : Obj := { cls := .type "list", data := .seq us.toArray }
  let H := soleH K a ob ns
  have off : ∀ {b : Addr}, b ≠ a → H b = none := fun {b} ne => if_neg ne
  have isA : ∀ {b : Addr} {u : HO}, H b = some u → b = a ∧ u = .frz ob (.lst (ns.map V.int)) ∧ K.lookup a = none := fun {b u} e => by
    by_cases q : b = a
    · subst q
      have e : (if True then (if (K.lookup b).isSome = true then none else some (HO.frz ob (.lst (ns.map V.int)))) else none) = some u := by
        have e' := e
        show (if True then _ else _) = _
        rw [if_pos trivial]
        have : H b = (if (K.lookup b).isSome = true then none else some (HO.frz ob (.lst (ns.map V.int)))) := if_pos rfl
        rw [this] at e'; exact e'
      rw [if_pos trivial] at e
      cases z : K.lookup b with
      | some o => rw [z] at e; cases e
      | none => rw [z] at e; cases e; exact ⟨rfl, rfl, rfl⟩
    · rw [off q] at e; cases e
  have seq : SqL K H a (ns.map V.int) := by
    cases z : K.lookup a with
    | some o =>
      have e := inK a o z
      rw [at_a] at e
      cases e
      exact .inr ⟨_, us.toArray, _, z, rfl, rfl, rfl, by rw [List.size_toArray, cnt]; exact size, by simpa using vals⟩
    | none =>
      refine .inl (.inr ⟨ob, ?_⟩)
      show H a = _
      have : H a = (if (K.lookup a).isSome = true then none else some (HO.frz ob (.lst (ns.map V.int)))) := if_pos rfl
      rw [this, z]; rfl
  have hok : HOk P w H s.heap := fun b u e => by
    obtain ⟨rfl, rfl, _⟩ := isA e
    exact ⟨at_a, by rw [List.length_map]; exact size, us, _, vals, at_a⟩
  have back : ∀ {b : Addr} {o : Obj}, s.heap.get? b = some o → H b = none → (hidT s.heap H).get? b = some o := fun e n => hidT_get e n
  have dict : ∀ {b : Addr} {o : Obj} {es : Array DictEntry} {m : Nat}, s.heap.get? b = some o → o.data = .dict es m → H b = none := fun {b o es m} e d => by
    cases q : H b with
    | none => rfl
    | some u =>
      obtain ⟨rfl, _, _⟩ := isA q
      rw [at_a] at e
      cases e
      have d : Data.seq us.toArray _ = Data.dict es m := d
      cases d
  have nsOf : ∀ {b : Addr} {m : Str → Option Value}, s.heap.Ns b m → (hidT s.heap H).Ns b m := fun ⟨o, es, j, e, d, r⟩ => ⟨o, es, j, back e (dict e d), d, r⟩
  have inB : K.In (hidT s.heap H) := fun b o e => back (inK b o e) (by
    cases q : H b with
    | none => rfl
    | some u =>
      obtain ⟨rfl, _, z⟩ := isA q
      rw [z] at e; cases e)
  obtain ⟨mc, lim1, lim2⟩ := lim
  have env : Env0 P w K mg (hidT s.heap H) callerA [] s H := ⟨rfl, ⟨inB, nsOf nsG, ⟨mb, nsOf nsB, bb⟩, ⟨mc, nsOf lim1, lim2⟩⟩, fun _ _ e => of_hidT e, Nat.le_of_eq (hidT_size _ _), trivial, fun b m => absurd (show b ∈ ([] : List Addr) from m) (by simp), hok, .of_eq gn⟩
  have ran := (F _ inB (nsOf nsG)).run callerA [] s H ⟨[.ref a], []⟩ [.ref a] [.ref a] (fun v _ => v = .bl true) room rfl env (bnd s (.ref a)) (.cons rfl .nil) (top_sp short seq)
  refine codeAny_mono ran fun r t h => ?_
  match r, h with
  | .error _, h => exact h.elim
  | .ok .next, h => exact h.elim
  | .ok .brk, h => exact h.elim
  | .ok .cont, h => exact h.elim
  | .ok (.ret u), h =>
    obtain ⟨v, H', os, bare, un, hok', rv, q⟩ := h
    have q : v = .bl true := q
    subst q
    have rv : u = Value.bool true := rv
    subst rv
    refine ⟨rfl, OldK.of_keep fun b o e => ?_, os, bare⟩
    cases q : H b with
    | none => exact un.keep b o e q (fun z => absurd (show b ∈ ([] : List Addr) from z) (by simp)) (by simp)
    | some u =>
      obtain ⟨rfl, rfl, _⟩ := isA q
      have e1 := (hok b _ q).1
      have e2 := (hok' b _ (un.frzs b ob _ q)).1
      rw [e] at e1
      cases e1
      exact e2
end
/-- the goal that k_head leaves -/
theorem walk_ofG {l : PySem.W.OpenLaw} {n k : Nat} {q : Program} {loose : List Str} {XP : (Str → Option Value) → Heap → Prop} {YP : World → Heap → Prop} {d : DefRec} {K : Params → PySem.W.Frag} {x : Str}
    (most : l.most = some n) (small : n ≤ 100000) (none_ : d.params.defaults = []) (room : Room k callerA) (hY : ∀ (w : World) (h : Heap), YP w h → (K w.params).In h)
    (F : ∀ (w : World) (mg : Str → Option Value) (g : Addr) (h : Heap), (K w.params).In h → h.Ns mainGlobals mg → mg d.name = some (.ref g) →
      ∃ fd : FuncData, (∀ (s : Shared) (u : Value), BindsTo s fd ⟨[u], []⟩ [(x, u)]) ∧ ∀ base : Heap, (K w.params).In base → base.Ns mainGlobals mg → FnG l.prog w (K w.params) mg base k g fd [x] (SpP (K w.params) R_top)) :
    PySem.W.WalkO q loose XP YP l.row.toRowW d [] (fun f vs => PySem.call f vs) :=
  Att.attach_call most none_ fun w s₀ s₁ mg mb g o pm cd doc a vs ns G Y ho hd hcd hmg hobj hints hlen hg =>
    have inK := hY w _ Y
    have ⟨_, bnd, all⟩ := F w mg g _ inK G.T.g hmg
    law_callG inK G.T.g G.T.b G.T.builtins G.T.nolimit hg hobj hints (Nat.le_trans hlen small) room all bnd
end Nz

namespace Nz
open PySem PySem.Spec PyProof.Rows L2 RZ
def topS (i : Nat) : Stmt := PySem.Challenge.pw_nosurewin_k87_hands_counted_by_ranks_and.main.body.getD i (.Pass ⟨0, 0, 0, 0⟩)
/-- what the top leaves of the names that are no defs -/
structure Gb (K : PySem.W.Frag) (mg : Str → Option Value) : Prop where
  abs_ : mg "abs" = none
  all_ : mg "all" = none
  any_ : mg "any" = none
  bool_ : mg "bool" = none
  int_ : mg "int" = none
  isinstance_ : mg "isinstance" = none
  len_ : mg "len" = none
  list_ : mg "list" = none
  max_ : mg "max" = none
  min_ : mg "min" = none
  range_ : mg "range" = none
  repr_ : mg "repr" = none
  set_ : mg "set" = none
  sorted_ : mg "sorted" = none
  str_ : mg "str" = none
  sum_ : mg "sum" = none
  tuple_ : mg "tuple" = none
  c_MAX_RANKS : ∃ t, mg "MAX_RANKS" = some (.int 13 t)
  c_MAX_SUITS : ∃ t, mg "MAX_SUITS" = some (.int 6 t)
  c_SORTS : ∃ a : Addr, mg "SORTS" = some (.ref a) ∧ ∀ H, Dz K H (.ref a) (.tuple [.str (Str.ofString "high"), .str (Str.ofString "pair"), .str (Str.ofString "pairs"), .str (Str.ofString "three"), .str (Str.ofString "row"), .str (Str.ofString "suit"), .str (Str.ofString "house"), .str (Str.ofString "four"), .str (Str.ofString "both")])



/-! ### the law's own defs that touch the state -/
abbrev s_law_start : Stmt := topS 30
abbrev N_law_start : List Str := ["script", "seed", "cell"]
theorem sc_law_start : FnScope N_law_start ["script"] (defScope s_law_start) := ⟨rfl, rfl, rfl, by decide +kernel, rfl, by decide +kernel, by decide +kernel⟩
def R_law_start : List PyData → List PyData → Prop := fun ds es => ∃ script : List Int, ds = [eL .int script] ∧ script.length ≤ 100000 ∧ es = [.list (script.map .int), .int 0, .int 0, .int (seedOf script : Nat)]
theorem ok_law_start {P : Program} {w : World} {K : PySem.W.Frag} {mg : Str → Option Value} {base : Heap} (B : Gb K mg) (F : Fd K mg "_law_start" s_law_start) : Cl P w K mg base 1 "_law_start" ["script"] (SpL K R_law_start) := by
  obtain ⟨f, fd, F, hm⟩ := F.ex
  refine ⟨f, fd, fnG_of (k := 0) F sc_law_start (spL_len fun ds d h => ?_) (fun cdv A outer s H hr hgd => ⟨_, (pss_cons (ps_set (i := 1) sc_law_start.nd rfl (Or.inl rfl) pe_int)
    (pss_cons (ps_for PassesOwn.never rfl (pi_list (pv 0)) (pg_name (i := 2) sc_law_start.nd rfl (Or.inl rfl)) (pss_one (ps_set (i := 1) sc_law_start.nd rfl (Or.inl rfl) (pe_op op_add (pe_op op_mod (pe_callTy call_int1 (by rfl) B.int_ PyProof.Rows.boot_int (pa_cons (pe_op op_add (pe_op op_mulG (pv 1) pe_int) (pv 2)) pa_nil)) pe_int) pe_int))))
    (pss_one (ps_ret (pe_lst (pa_cons (pe_callTy call_list_of (by rfl) B.list_ PyProof.Rows.boot_list (pa_cons (pv 0) pa_nil)) (pa_cons pe_int (pa_cons pe_int (pa_cons (pv 1) pa_nil))))))))), fun vs Q => fn_new (N := N_law_start) (fun ds d h => ?_) (fun B S ds d h D hR => ?_) vs H Q E0⟩), hm, F.kp, F.binds fun _ _ _ _ _ _ us hl => match us, hl with | [_], _ => rfl⟩
  · obtain ⟨script, rfl, h0, h1⟩ := h; rfl
  · obtain ⟨script, rfl, h0, h1⟩ := h; simp
  · obtain ⟨script, rfl, h0, h1⟩ := h
    subst h1
    show Ss _ _ [.da (eL .int script), .no, .no] _ _
    refine s_seq (s_asg ed_int (s_le (ρ1 := [.da (eL .int script), .da (.int ((seedOf [] : Nat) : Int)), .no]) (le_rfl rfl) ?_))
    refine s_seq (s_forX script (fun x => Itm.hard (PyData.int x)) (ei_listX (ed_var rfl)) (fun i => [.da (eL .int script), .da (.int ((seedOf (script.take i) : Nat) : Int)), .no]) (le_same (le_same (le_no le_nil))) (fun T' hT i x hx => ⟨_, [2], eg_name (by decide), ?_⟩) ?_)
    · show Ss _ _ [.da (eL .int script), .da (.int ((seedOf (script.take i) : Nat) : Int)), .da (.int x)] _ _
      refine s_asg (ed_I0 (ed_I (ed_intI (ed_I0 (ed_I (ed_var rfl) ed_int (mul_r (by omega) (by omega))) (ed_var rfl))) ed_int (by omega)) ed_int) (s_end (ρ1 := [.da (eL .int script), .da (.int ((seedOf (script.take (i + 1)) : Nat) : Int)), .no]) (le_same (le_da (congrArg PyData.int (seedOf_step hx).2) (le_no le_nil))))
    · refine s_retL (el_is (el_lst (ds := [eL .int script, .int 0, .int 0, .int ((seedOf (script.take script.length) : Nat) : Int)]) (ea_cons (ed_L (el_listOf (.inl (ed_var rfl)))) (ea_cons ed_int (ea_cons ed_int (ea_cons (ed_var rfl) ea_nil))))) (by rw [List.take_length])) hR
abbrev s_law_draw : Stmt := topS 31
abbrev N_law_draw : List Str := ["state", "many", "value"]
theorem sc_law_draw : FnScope N_law_draw ["state", "many"] (defScope s_law_draw) := ⟨rfl, rfl, rfl, by decide +kernel, rfl, by decide +kernel, by decide +kernel⟩
theorem ok_law_draw {P : Program} {w : World} {K : PySem.W.Frag} {mg : Str → Option Value} {base : Heap} (B : Gb K mg) (F : Fd K mg "_law_draw" s_law_draw) : Cl P w K mg base 1 "_law_draw" ["state", "many"] (SpW K R_draw) := by
  obtain ⟨f, fd, F, hm⟩ := F.ex
  refine ⟨f, fd, fnG_of (k := 0) F sc_law_draw (spW_len fun ds d h => ?_) (fun cdv A outer s H hr hgd => ⟨_, (pss_cons (ps_if (PW.pt (pw_and (pt_cmpR (op_eqD hr.units) (pe_ix ix_list (pv 0) pe_int (fun _ _ => rfl)) pe_int (nomark _)) (pw_and1 (pt_cmpR op_ge (pe_ix ix_list (pv 0) pe_int (fun _ _ => rfl)) (pe_callB call_len_seq (by rfl) B.len_ PySem.boot_len (pa_cons (pe_ix ix_list (pv 0) pe_int (fun _ _ => rfl)) pa_nil)) (nomark _)))))
      (pss_cons (ps_asg (pe_op op_mod (pe_callTy call_int1 (by rfl) B.int_ PyProof.Rows.boot_int (pa_cons (pe_op op_add (pe_op op_mulG (pe_ix ix_list (pv 0) pe_int (fun _ _ => rfl)) pe_int) pe_int) pa_nil)) pe_int) (pg_sub (pv 0) pe_int set_list (fun _ => rfl)) rfl)
        (pss_one (ps_ret (pe_op op_mod (pe_callTy call_int1 (by rfl) B.int_ PyProof.Rows.boot_int (pa_cons (pe_op op_fdivG (pe_ix ix_list (pv 0) pe_int (fun _ _ => rfl)) pe_int) pa_nil)) (pv 1))))) pss_nil)
    (pss_cons (ps_if (pt_cmpR (op_eqD hr.units) (pe_ix ix_list (pv 0) pe_int (fun _ _ => rfl)) pe_int (nomark _))
      (pss_cons (ps_asg (pe_callB call_abs (by rfl) B.abs_ PyProof.Rows.boot_abs (pa_cons (pe_ix ix_list (pe_ix ix_list (pv 0) pe_int (fun _ _ => rfl)) (pe_ix ix_list (pv 0) pe_int (fun _ _ => rfl)) (fun _ _ => rfl)) pa_nil)) (pg_sub (pv 0) pe_int set_list (fun _ => rfl)) rfl)
        (pss_one (ps_asg (pe_op op_add (pe_ix ix_list (pv 0) pe_int (fun _ _ => rfl)) pe_int) (pg_sub (pv 0) pe_int set_list (fun _ => rfl)) rfl))) pss_nil)
    (pss_cons (ps_set (i := 2) sc_law_draw.nd rfl (Or.inl rfl) (pe_op op_mod (pe_callTy call_int1 (by rfl) B.int_ PyProof.Rows.boot_int (pa_cons (pe_ix ix_list (pv 0) pe_int (fun _ _ => rfl)) pa_nil)) (pv 1)))
    (pss_cons (ps_asg (pe_op op_fdivG (pe_ix ix_list (pv 0) pe_int (fun _ _ => rfl)) (pv 1)) (pg_sub (pv 0) pe_int set_list (fun _ => rfl)) rfl)
    (pss_one (ps_ret (pv 2))))))), fun vs Q => fn_draws (N := N_law_draw) (fun ds d h => ?_) (fun B S a ds Φ h D hR => ?_) vs H Q E0⟩), hm, F.kp, F.binds fun _ _ _ _ _ _ us hl => match us, hl with | [_, _], _ => rfl⟩
  · obtain ⟨many, rfl, h0, h1, h2⟩ := h; rfl
  · obtain ⟨many, rfl, h0, h1, h2⟩ := h; simp
  · obtain ⟨many, rfl, h0, h1, hΦ⟩ := h
    show Ss _ _ [.mu false a (.any StOk), .da (.int many), .no] _ _
    refine s_open (i := 0) rfl (fun ds hds => ?_)
    obtain ⟨l, cur, pos, seed, rfl⟩ := hds
    have fin : ∀ (l : List Int) (cur pos seed : Nat) (y : Int) (z : Sl), 0 ≤ y ∧ y < many → ∀ {te : TE} {T : Tm} {ρ : List Sl}, Ed ⟨K, B, [a], S⟩ ρ te (.int y) [.mu false a (.lst [.list (l.map .int), .int (cur : Int), .int (pos : Int), .int (seed : Int)]), .da (.int many), z] → Ss ⟨K, B, [a], S⟩ T ρ (tRet te) D := fun l cur pos seed y z hy te T ρ h σ H W =>
      h T σ H W _ fun v H1 W1 => by
        have W2 := W1.le (le_any (P := StOk) ⟨l, cur, pos, seed, rfl⟩ (le_same (le_same le_nil)))
        exact hR _ (hΦ y hy) v H1 W2.keep (fun p hp => by
          simp only [List.mem_singleton] at hp
          subst hp
          exact (W2.ok 0 _ rfl).2.2.mono hide_S0 rfl) (dpm hide_S0 W2.dp)
    have md : ∀ x : Int, 0 ≤ x % many ∧ x % many < many := fun x => ⟨Int.emod_nonneg _ (by omega), Int.emod_lt_of_pos _ h0⟩
    show Ss _ _ [.mu false a (.lst [.list (l.map .int), .int (cur : Int), .int (pos : Int), .int (seed : Int)]), .da (.int many), .no] _ _
    refine s_seq (s_if (b := decide ((cur : Int) = 0) && decide ((l.length : Int) ≤ (pos : Int))) (et_and (et_test (ed_eqI (ed_ixM ed_int rfl ⟨_, _, rfl⟩ rfl) ed_int)) (fun _ => et_test (ed_B0 (ed_ixM ed_int rfl ⟨_, _, rfl⟩ rfl) (ed_lenLX (ed_ixM ed_int rfl ⟨_, _, rfl⟩ rfl))))) (fun hc => ?_) (fun hc => ?_))
    · refine s_seq (s_setL (i := 0) (n := 3) (ed_I (ed_intI (ed_I0 (ed_I (ed_ixM ed_int rfl ⟨_, _, rfl⟩ rfl) ed_int (mul_r (by omega) (by omega))) ed_int)) ed_int (by omega)) ed_int ⟨_, _, rfl⟩ rfl rfl (s_le (ρ1 := [.mu false a (.lst [.list (l.map .int), .int (cur : Int), .int (pos : Int), .int ((((seed * 48271 + 69621) % 2147483629 : Nat)) : Int)]), .da (.int many), .no]) (le_rfl rfl) ?_))
      exact fin l cur pos ((seed * 48271 + 69621) % 2147483629) (((((seed * 48271 + 69621) % 2147483629 : Nat)) : Int) / 13 % many) .no (md _) (ed_I (ed_intI (ed_I (ed_ixM ed_int rfl ⟨_, _, rfl⟩ rfl) ed_int (div_small (by omega) (by omega)))) (ed_var rfl) h0)
    refine s_seq ?_
    refine s_next ?_
    have rest : ∀ (T : Tm) (cur pos : Nat), Sk ⟨K, B, [a], S⟩ T [.mu false a (.lst [.list (l.map .int), .int (cur : Int), .int (pos : Int), .int (seed : Int)]), .da (.int many), .no] (tSeq (tAsg (tOp (rI (fun _ j => 0 < j) fun i j => .int (i % j)) (tCB (fun xs H Q => (∃ i, xs = [.int i] ∧ Q (.int i) H) ∨ ∃ k, xs = [.bl k] ∧ Q (.int (if k then 1 else 0)) H) (tCons (tOp (rIxL K) (tVar 0) (tC (.int 1))) tNil)) (tVar 1)) (gName 2)) (tSeq (tAsg (tOp (rI CDivG fun i j => .int (i / j)) (tOp (rIxL K) (tVar 0) (tC (.int 1))) (tVar 1)) (gSub (tVar 0) (tC (.int 1)) rSetL)) (tRet (tVar 2))) D) := fun T cur pos => by
      refine s_seq (s_asg (ed_I (ed_intI (ed_ixM ed_int rfl ⟨_, _, rfl⟩ rfl)) (ed_var rfl) h0) (s_le (ρ1 := [.mu false a (.lst [.list (l.map .int), .int (cur : Int), .int (pos : Int), .int (seed : Int)]), .da (.int many), .da (.int ((cur : Int) % many))]) (le_rfl rfl) ?_))
      refine s_seq (s_setL (i := 0) (n := 1) (ed_I (ed_ixM ed_int rfl ⟨_, _, rfl⟩ rfl) (ed_var rfl) (div_small h0 (by omega))) ed_int ⟨_, _, rfl⟩ rfl rfl (s_le (ρ1 := [.mu false a (.lst [.list (l.map .int), .int ((cur / many.toNat : Nat) : Int), .int (pos : Int), .int (seed : Int)]), .da (.int many), .da (.int ((cur : Int) % many))]) (le_rfl ?_) ?_))
      · have e : ((cur / many.toNat : Nat) : Int) = (cur : Int) / many := by rw [Int.natCast_ediv, Int.toNat_of_nonneg (by omega)]
        rw [e]; rfl
      exact fin l _ pos seed _ _ (md _) (ed_var rfl)
    refine s_seq (s_if (b := decide ((cur : Int) = 0)) (et_test (ed_eqI (ed_ixM ed_int rfl ⟨_, _, rfl⟩ rfl) ed_int)) (fun hc2 => ?_) (fun hc2 => ?_))
    · have hp : pos < l.length := by simp only [hc2, Bool.true_and] at hc; have := of_decide_eq_false hc; omega
      refine s_seq (s_setL (i := 0) (n := 1) (ed_abs (ed_ixL (ed_ixM ed_int rfl ⟨_, _, rfl⟩ rfl) (ed_ixM ed_int rfl ⟨_, _, rfl⟩ rfl) (d := .int l[pos]) (by rw [atI_nat (v := PyData.int l[pos]) (by simp [hp])]))) ed_int ⟨_, _, rfl⟩ rfl rfl (s_le (ρ1 := [.mu false a (.lst [.list (l.map .int), .int (l[pos].natAbs : Int), .int (pos : Int), .int (seed : Int)]), .da (.int many), .no]) (le_rfl rfl) ?_))
      refine s_setL (i := 0) (n := 2) (ed_I0 (ed_ixM ed_int rfl ⟨_, _, rfl⟩ rfl) ed_int) ed_int ⟨_, _, rfl⟩ rfl rfl (s_le (ρ1 := [.mu false a (.lst [.list (l.map .int), .int (l[pos].natAbs : Int), .int ((pos + 1 : Nat) : Int), .int (seed : Int)]), .da (.int many), .no]) (le_rfl rfl) ?_)
      exact rest _ _ _
    · refine s_next ?_
      exact rest _ _ _
abbrev s_law_pick : Stmt := topS 32
abbrev N_law_pick : List Str := ["state", "some"]
theorem sc_law_pick : FnScope N_law_pick ["state", "some"] (defScope s_law_pick) := ⟨rfl, rfl, rfl, by decide +kernel, rfl, by decide +kernel, by decide +kernel⟩
theorem ok_law_pick {P : Program} {w : World} {K : PySem.W.Frag} {mg : Str → Option Value} {base : Heap} (B : Gb K mg) (F : Fd K mg "_law_pick" s_law_pick) (C_law_draw : Cl P w K mg base 1 "_law_draw" ["state", "many"] (SpW K R_draw)) : Cl P w K mg base 2 "_law_pick" ["state", "some"] (SpW K R_pick) := by
  obtain ⟨f, fd, F, hm⟩ := F.ex
  refine ⟨f, fd, fnG_of (k := 1) F sc_law_pick (spW_len fun ds d h => ?_) (fun cdv A outer s H hr hgd => ⟨_, (pss_one (ps_ret (pe_ix ix_any (pv 1) (pe_cl C_law_draw (hr.mono (by decide)) hgd (by rfl) (pa_cons (pv 0) (pa_cons (pe_callB call_len_seq (by rfl) B.len_ PySem.boot_len (pa_cons (pv 1) pa_nil)) pa_nil))) (fun _ _ => rfl)))), fun vs Q => fn_draws (N := N_law_pick) (fun ds d h => ?_) (fun B S a ds Φ h D hR => ?_) vs H Q E0⟩), hm, F.kp, F.binds fun _ _ _ _ _ _ us hl => match us, hl with | [_, _], _ => rfl⟩
  · obtain ⟨l, rfl | rfl, _⟩ := h <;> rfl
  · obtain ⟨l, rfl | rfl, _⟩ := h <;> simp
  · obtain ⟨l, hl, h0, h1, hΦ⟩ := h
    rcases hl with rfl | rfl
    · show Ss _ _ [.mu false a (.any StOk), .da (.list l)] _ _
      refine s_retW (i := 0) (ρ1 := [.mu false a (.any StOk), .da (.list l)]) (P := fun d => d ∈ l) (f := fun d => d) (ew_ixAny (ds := l) (.inl rfl) (ed_var rfl) (ew_draw (ew_det (f := PyData.int) (x := (l.length : Int)) (ed_lenL (ed_var rfl))) rfl rfl (by rintro _ rfl; omega)) (by rintro x ⟨m, rfl, hx⟩; exact hx)) rfl hR hΦ
    · show Ss _ _ [.mu false a (.any StOk), .da (.tuple l)] _ _
      refine s_retW (i := 0) (ρ1 := [.mu false a (.any StOk), .da (.tuple l)]) (P := fun d => d ∈ l) (f := fun d => d) (ew_ixAny (ds := l) (.inr rfl) (ed_var rfl) (ew_draw (ew_det (f := PyData.int) (x := (l.length : Int)) (ed_lenT (ed_var rfl))) rfl rfl (by rintro _ rfl; omega)) (by rintro x ⟨m, rfl, hx⟩; exact hx)) rfl hR hΦ


/-! ### is_integer -/
abbrev s_is_integer : Stmt := topS 4
abbrev N_is_integer : List Str := ["value"]
theorem sc_is_integer : FnScope N_is_integer ["value"] (defScope s_is_integer) := ⟨rfl, rfl, rfl, by decide +kernel, rfl, by decide +kernel, by decide +kernel⟩
def R_is_integer : List PyData → PyData → Prop := fun ds d => ∃ (value : PyData), ds = [value] ∧ d = (PyData.bool (isIntD value))
set_option maxHeartbeats 4000000 in
theorem ok_is_integer {P : Program} {w : World} {K : PySem.W.Frag} {mg : Str → Option Value} {base : Heap} (B : Gb K mg) (F : Fd K mg "is_integer" s_is_integer) : Cl P w K mg base 1 "is_integer" ["value"] (SpP K R_is_integer) := by
  have BG := B
  obtain ⟨f, fd, F, hm⟩ := F.ex
  refine ⟨f, fd, fnG_of (k := 0) F sc_is_integer (spP_len fun ds d h => ?_) (fun cdv A outer s H hr hgd => ⟨_, (pss_one (ps_ret (pe_and (pe_callB (r := rIsi K) call_isi (by rfl) B.isinstance_ boot_isinstance (pa_cons (pv 0) (pa_cons (pe_bltn (v := .ty "int") (u := .type "int") (by rfl) B.int_ PyProof.Rows.boot_int rfl) pa_nil))) (pe_one (pe_not (pe_callB (r := rIsi K) call_isi (by rfl) B.isinstance_ boot_isinstance (pa_cons (pv 0) (pa_cons (pe_bltn (v := .ty "bool") (u := .type "bool") (by rfl) B.bool_ (by decide +kernel) rfl) pa_nil)))))))), fun vs Q => fn_pure (N := N_is_integer) (fun ds d h => ?_) (fun B S ds d h D hR hN => ?_) vs H Q E0⟩), hm, F.kp, F.binds fun _ _ _ _ _ _ us hl => match us, hl with | [_], _ => rfl⟩
  · obtain ⟨value, rfl, rfl⟩ := h; rfl
  · obtain ⟨value, rfl, rfl⟩ := h; simp
  · obtain ⟨value, rfl, rfl⟩ := h
    show Ss _ _ [.da value] _ _
    exact s_ret (ed_is (ed_and (ed_isiD (ed_var rfl) (by exact kit_int _)) (fun hb1 => (ed_not (ed_isiD (ed_var rfl) (by exact kit_bool _))))) (by rfl : (PyData.bool ((isi_int value) && (!(isi_bool value)))) = (PyData.bool (isIntD value)))) hR

/-! ### greatest_divisor -/
abbrev s_greatest_divisor : Stmt := topS 8
abbrev N_greatest_divisor : List Str := ["first", "second"]
theorem sc_greatest_divisor : FnScope N_greatest_divisor ["first", "second"] (defScope s_greatest_divisor) := ⟨rfl, rfl, rfl, by decide +kernel, rfl, by decide +kernel, by decide +kernel⟩
def R_greatest_divisor : List PyData → PyData → Prop := fun ds d => ∃ (first : Nat) (second : Nat), ds = [(eN first), (eN second)] ∧ d = (eN (Nat.gcd first second))
set_option maxHeartbeats 4000000 in
theorem ok_greatest_divisor {P : Program} {w : World} {K : PySem.W.Frag} {mg : Str → Option Value} {base : Heap} (B : Gb K mg) (F : Fd K mg "greatest_divisor" s_greatest_divisor) : Cl P w K mg base 1 "greatest_divisor" ["first", "second"] (SpP K R_greatest_divisor) := by
  have BG := B
  obtain ⟨f, fd, F, hm⟩ := F.ex
  refine ⟨f, fd, fnG_of (k := 0) F sc_greatest_divisor (spP_len fun ds d h => ?_) (fun cdv A outer s H hr hgd => ⟨_, (pss_cons (ps_while PassesOwn.never (pt_cmpR op_gt (pv 1) pe_int (nomark _)) (pss_one (ps_par (i := 0) (j := 1) rfl sc_greatest_divisor.nd rfl rfl (by decide) rfl rfl (pa_cons (pv 1) (pa_cons (pe_op op_mod (pv 0) (pv 1)) pa_nil)) rfl rfl))) (pss_one (ps_ret (pv 0)))), fun vs Q => fn_pure (N := N_greatest_divisor) (fun ds d h => ?_) (fun B S ds d h D hR hN => ?_) vs H Q E0⟩), hm, F.kp, F.binds fun _ _ _ _ _ _ us hl => match us, hl with | [_, _], _ => rfl⟩
  · obtain ⟨first, second, rfl, rfl⟩ := h; rfl
  · obtain ⟨first, second, rfl, rfl⟩ := h; simp
  · obtain ⟨first, second, rfl, rfl⟩ := h
    show Ss _ _ [.da (PyData.int (first : Int)), .da (PyData.int (second : Int))] _ _
    refine s_seq (s_while (α := Nat × Nat) (fun a => [.da (PyData.int (a.1 : Int)), .da (PyData.int (a.2 : Int))]) (fun a => Nat.gcd a.1 a.2 = Nat.gcd first second) (fun a => a.2) ((first, second)) (by rfl) (le_da (by rfl) (le_da (by rfl) le_nil)) (fun a hP => ⟨_, _, (et_test (ed_B0 (ed_var rfl) ed_int)), fun hb => ?_, fun hb => ?_⟩))
    · refine (s_par (ea_cons (ed_var rfl) (ea_cons (ed_I (ed_var rfl) (ed_var rfl) (by have := of_decide_eq_true hb; omega)) ea_nil)) (s_le (ρ1 := [.da (PyData.int (a.2 : Int)), .da (PyData.int ((a.1 : Int) % (a.2 : Int)))]) (le_rfl rfl) ?_))
      exact s_endW ((a.2, a.1 % a.2)) (by exact (gcd_turn a.1 a.2).trans hP) (by have := of_decide_eq_true hb; exact Nat.mod_lt _ (by omega)) (le_da (by rfl) (le_da (by rfl) le_nil))
    · exact s_ret (ed_is (ed_var rfl) (by exact gcd_end hP hb : (PyData.int (a.1 : Int)) = (eN (Nat.gcd first second)))) hR

/-! ### quotient -/
abbrev s_quotient : Stmt := topS 9
abbrev N_quotient : List Str := ["up", "down", "divisor"]
theorem sc_quotient : FnScope N_quotient ["up", "down"] (defScope s_quotient) := ⟨rfl, rfl, rfl, by decide +kernel, rfl, by decide +kernel, by decide +kernel⟩
def R_quotient : List PyData → PyData → Prop := fun ds d => ∃ (up : Int) (down : Int), ds = [(PyData.int up), (PyData.int down)] ∧ (down ≠ 0) ∧ (down.natAbs < 2 ^ 8999) ∧ d = (eQ (Rat.divInt up down))
set_option maxHeartbeats 4000000 in
theorem ok_quotient {P : Program} {w : World} {K : PySem.W.Frag} {mg : Str → Option Value} {base : Heap} (B : Gb K mg) (F : Fd K mg "quotient" s_quotient) (C_greatest_divisor : Cl P w K mg base 1 "greatest_divisor" ["first", "second"] (SpP K R_greatest_divisor)) : Cl P w K mg base 2 "quotient" ["up", "down"] (SpP K R_quotient) := by
  have BG := B
  obtain ⟨f, fd, F, hm⟩ := F.ex
  refine ⟨f, fd, fnG_of (k := 1) F sc_quotient (spP_len fun ds d h => ?_) (fun cdv A outer s H hr hgd => ⟨_, (pss_cons (ps_if (pt_cmpR op_lt (pv 1) pe_int (nomark _)) (pss_one (ps_par (i := 0) (j := 1) rfl sc_quotient.nd rfl rfl (by decide) rfl rfl (pa_cons (pe_un un_neg (pv 0)) (pa_cons (pe_un un_neg (pv 1)) pa_nil)) rfl rfl)) pss_nil) (pss_cons (ps_set (i := 2) sc_quotient.nd rfl (Or.inl rfl) (pe_cl C_greatest_divisor (hr.mono (by decide)) hgd (by rfl) (pa_cons (pe_callB call_abs (by rfl) B.abs_ PyProof.Rows.boot_abs (pa_cons (pv 0) pa_nil)) (pa_cons (pv 1) pa_nil)))) (pss_one (ps_ret (pe_tupF (pa_cons (pe_op op_fdivG (pv 0) (pv 2)) (pa_cons (pe_op op_fdivG (pv 1) (pv 2)) pa_nil))))))), fun vs Q => fn_pure (N := N_quotient) (fun ds d h => ?_) (fun B S ds d h D hR hN => ?_) vs H Q E0⟩), hm, F.kp, F.binds fun _ _ _ _ _ _ us hl => match us, hl with | [_, _], _ => rfl⟩
  · obtain ⟨up, down, rfl, h0, h1, rfl⟩ := h; rfl
  · obtain ⟨up, down, rfl, h0, h1, rfl⟩ := h; simp
  · obtain ⟨up, down, rfl, h0, h1, rfl⟩ := h
    show Ss _ _ [.da (PyData.int up), .da (PyData.int down), .no] _ _
    refine s_seq (s_if (b := (decide (down < (0 : Int)))) (et_test (ed_B0 (ed_var rfl) ed_int)) (fun hc0 => ?_) (fun hc0 => ?_))
    · refine (s_par (ea_cons (ed_neg (ed_var rfl)) (ea_cons (ed_neg (ed_var rfl)) ea_nil)) (s_le (ρ1 := [.da (PyData.int (-up)), .da (PyData.int (-down)), .no]) (le_rfl rfl) ?_))
      refine s_seq (s_asg (ed_call (ds := [(eN ((-up)).natAbs), (eN ((-down)).natAbs)]) (ea_cons (ed_abs (ed_var rfl)) (ea_cons (ed_is (ed_var rfl) (by exact eN_abs (by first | (have := of_decide_eq_true hc0; omega) | (have := of_decide_eq_false hc0; omega)) : _ = (eN ((-down)).natAbs))) ea_nil)) ⟨((-up)).natAbs, ((-down)).natAbs, rfl, rfl⟩) (s_le (ρ1 := [.da (PyData.int (-up)), .da (PyData.int (-down)), .da (PyData.int (((Nat.gcd (((-up)).natAbs) (((-down)).natAbs)) : Nat) : Int))]) (le_rfl rfl) ?_))
      exact s_ret (ed_is (ed_tup (ds := [(PyData.int ((-up) / (((Nat.gcd (((-up)).natAbs) (((-down)).natAbs)) : Nat) : Int))), (PyData.int ((-down) / (((Nat.gcd (((-up)).natAbs) (((-down)).natAbs)) : Nat) : Int)))]) (ea_cons (ed_I (ed_var rfl) (ed_var rfl) (by first | exact quo_div h0 h1 | exact quo_div (by omega) (by rw [Int.natAbs_neg]; exact h1))) (ea_cons (ed_I (ed_var rfl) (ed_var rfl) (by first | exact quo_div h0 h1 | exact quo_div (by omega) (by rw [Int.natAbs_neg]; exact h1))) ea_nil))) (by exact quo_neg hc0 : ((eP PyData.int PyData.int) (((-up) / (((Nat.gcd (((-up)).natAbs) (((-down)).natAbs)) : Nat) : Int)), ((-down) / (((Nat.gcd (((-up)).natAbs) (((-down)).natAbs)) : Nat) : Int)))) = (eQ (Rat.divInt up down)))) hR
    · refine s_next ?_
      refine s_seq (s_asg (ed_call (ds := [(eN (up).natAbs), (eN (down).natAbs)]) (ea_cons (ed_abs (ed_var rfl)) (ea_cons (ed_is (ed_var rfl) (by exact eN_abs (by first | (have := of_decide_eq_true hc0; omega) | (have := of_decide_eq_false hc0; omega)) : _ = (eN (down).natAbs))) ea_nil)) ⟨(up).natAbs, (down).natAbs, rfl, rfl⟩) (s_le (ρ1 := [.da (PyData.int up), .da (PyData.int down), .da (PyData.int (((Nat.gcd ((up).natAbs) ((down).natAbs)) : Nat) : Int))]) (le_rfl rfl) ?_))
      exact s_ret (ed_is (ed_tup (ds := [(PyData.int (up / (((Nat.gcd ((up).natAbs) ((down).natAbs)) : Nat) : Int))), (PyData.int (down / (((Nat.gcd ((up).natAbs) ((down).natAbs)) : Nat) : Int)))]) (ea_cons (ed_I (ed_var rfl) (ed_var rfl) (by first | exact quo_div h0 h1 | exact quo_div (by omega) (by rw [Int.natAbs_neg]; exact h1))) (ea_cons (ed_I (ed_var rfl) (ed_var rfl) (by first | exact quo_div h0 h1 | exact quo_div (by omega) (by rw [Int.natAbs_neg]; exact h1))) ea_nil))) (by exact quo_pos h0 hc0 : ((eP PyData.int PyData.int) ((up / (((Nat.gcd ((up).natAbs) ((down).natAbs)) : Nat) : Int)), (down / (((Nat.gcd ((up).natAbs) ((down).natAbs)) : Nat) : Int)))) = (eQ (Rat.divInt up down)))) hR

/-! ### choose -/
abbrev s_choose : Stmt := topS 10
abbrev N_choose : List Str := ["many", "few", "found", "at"]
theorem sc_choose : FnScope N_choose ["many", "few"] (defScope s_choose) := ⟨rfl, rfl, rfl, by decide +kernel, rfl, by decide +kernel, by decide +kernel⟩
def R_choose : List PyData → PyData → Prop := fun ds d => ∃ (many : Int) (few : Int), ds = [(PyData.int many), (PyData.int few)] ∧ (0 ≤ many ∧ many ≤ 4000) ∧ d = (PyData.int (chI many few))
set_option maxHeartbeats 4000000 in
theorem ok_choose {P : Program} {w : World} {K : PySem.W.Frag} {mg : Str → Option Value} {base : Heap} (B : Gb K mg) (F : Fd K mg "choose" s_choose) : Cl P w K mg base 1 "choose" ["many", "few"] (SpP K R_choose) := by
  have BG := B
  obtain ⟨f, fd, F, hm⟩ := F.ex
  refine ⟨f, fd, fnG_of (k := 0) F sc_choose (spP_len fun ds d h => ?_) (fun cdv A outer s H hr hgd => ⟨_, (pss_cons (ps_if (PW.pt (pw_or (pt_cmpR op_lt (pv 1) pe_int (nomark _)) (pw_or1 (pt_cmpR op_gt (pv 1) (pv 0) (nomark _))))) (pss_one (ps_ret pe_int)) pss_nil) (pss_cons (ps_set (i := 2) sc_choose.nd rfl (Or.inl rfl) pe_int) (pss_cons (ps_for PassesOwn.never rfl (pi_range1 (by rfl) B.range_ (pa_cons (pv 1) pa_nil)) (pg_name (i := 3) sc_choose.nd rfl (Or.inl rfl)) (pss_one (ps_set (i := 2) sc_choose.nd rfl (Or.inl rfl) (pe_op op_fdivG (pe_op op_mulG (pv 2) (pe_op op_sub (pv 0) (pv 3))) (pe_op op_add (pv 3) pe_int))))) (pss_one (ps_ret (pv 2)))))), fun vs Q => fn_pure (N := N_choose) (fun ds d h => ?_) (fun B S ds d h D hR hN => ?_) vs H Q E0⟩), hm, F.kp, F.binds fun _ _ _ _ _ _ us hl => match us, hl with | [_, _], _ => rfl⟩
  · obtain ⟨many, few, rfl, h0, rfl⟩ := h; rfl
  · obtain ⟨many, few, rfl, h0, rfl⟩ := h; simp
  · obtain ⟨many, few, rfl, h0, rfl⟩ := h
    show Ss _ _ [.da (PyData.int many), .da (PyData.int few), .no, .no] _ _
    refine s_seq (s_if (b := ((decide (few < (0 : Int))) || (decide (many < few)))) (et_or (et_test (ed_B0 (ed_var rfl) ed_int)) (fun hb1 => (et_test (ed_B0 (ed_var rfl) (ed_var rfl))))) (fun hc0 => ?_) (fun hc0 => ?_))
    · exact s_ret (ed_is ed_int (by exact ch_out hc0 : (PyData.int (0 : Int)) = (PyData.int (chI many few)))) hR
    · refine s_next ?_
      refine s_seq (s_asg ed_int (s_le (ρ1 := [.da (PyData.int many), .da (PyData.int few), .da (PyData.int (1 : Int)), .no]) (le_rfl rfl) ?_))
      refine s_seq (s_forX ((List.range (few).toNat)) (fun (i : Nat) => Itm.hard (PyData.int (i : Int))) (ei_rng (ed_var rfl) (by have hc := hc0; simp only [Bool.or_eq_false_iff, decide_eq_false_iff_not] at hc; omega)) (fun i0 => [.da (PyData.int many), .da (PyData.int few), .da (PyData.int ((bin many.toNat i0 : Nat) : Int)), .no]) (le_same (le_same (le_da (by rw [bin_zero]; rfl) (le_no le_nil)))) (fun T0 hT0 i0 x0 hx0 => ⟨_, [3], (eg_name (by simp)), ?_⟩) ?_)
      · show Ss _ _ [.da (PyData.int many), .da (PyData.int few), .da (PyData.int ((bin many.toNat i0 : Nat) : Int)), .da (PyData.int (x0 : Int))] _ _
        have hr := rng_get hx0
        have hc := hc0
        simp only [Bool.or_eq_false_iff, decide_eq_false_iff_not] at hc
        refine (s_asg (ed_I (ed_I (ed_var rfl) (ed_I0 (ed_var rfl) (ed_var rfl)) (by first | assumption | exact mul_l (by omega) (by omega) | exact mul_r (by omega) (by omega))) (ed_I0 (ed_var rfl) ed_int) (by exact div_small (by omega) (by omega))) (s_le (ρ1 := [.da (PyData.int many), .da (PyData.int few), .da (PyData.int ((((bin many.toNat i0 : Nat) : Int) * (many - (x0 : Int))) / ((x0 : Int) + (1 : Int)))), .da (PyData.int (x0 : Int))]) (le_rfl rfl) ?_))
        exact s_end (le_same (le_same (le_da (by rw [hr.1]; exact congrArg PyData.int (bin_stepJ h0.1)) (le_no le_nil))))
      exact s_ret (ed_is (ed_var rfl) (by exact ch_in hc0 : (PyData.int ((bin many.toNat ((List.range (few).toNat)).length : Nat) : Int)) = (PyData.int (chI many few)))) hR

/-! ### check_pack -/
abbrev s_check_pack : Stmt := topS 13
abbrev N_check_pack : List Str := ["ranks", "suits"]
theorem sc_check_pack : FnScope N_check_pack ["ranks", "suits"] (defScope s_check_pack) := ⟨rfl, rfl, rfl, by decide +kernel, rfl, by decide +kernel, by decide +kernel⟩
def R_check_pack : List PyData → PyData → Prop := fun ds d => ∃ (ranks : Int) (suits : Int), ds = [(PyData.int ranks), (PyData.int suits)] ∧ (PackOk ranks suits) ∧ d = PyData.none
set_option maxHeartbeats 4000000 in
theorem ok_check_pack {P : Program} {w : World} {K : PySem.W.Frag} {mg : Str → Option Value} {base : Heap} (B : Gb K mg) (F : Fd K mg "check_pack" s_check_pack) (C_is_integer : Cl P w K mg base 1 "is_integer" ["value"] (SpP K R_is_integer)) : Cl P w K mg base 2 "check_pack" ["ranks", "suits"] (SpP K R_check_pack) := by
  have BG := B
  obtain ⟨f, fd, F, hm⟩ := F.ex
  refine ⟨f, fd, fnG_of (k := 1) F sc_check_pack (spP_len fun ds d h => ?_) (fun cdv A outer s H hr hgd => ⟨_, (pss_cons (ps_if (PW.pt (pw_or (pt_not (pt_truth (pe_cl C_is_integer (hr.mono (by decide)) hgd (by rfl) (pa_cons (pv 0) pa_nil)) (fun _ => rfl))) (pw_or1 (pt_not (pt_chain op_le op_le pe_int (pv 0) (pe_glob (v := .int 13) rfl B.c_MAX_RANKS.choose_spec ⟨_, rfl⟩)))))) pss_never pss_nil) (pss_one (ps_if (PW.pt (pw_or (pt_not (pt_truth (pe_cl C_is_integer (hr.mono (by decide)) hgd (by rfl) (pa_cons (pv 1) pa_nil)) (fun _ => rfl))) (pw_or1 (pt_not (pt_chain op_le op_le pe_int (pv 1) (pe_glob (v := .int 6) rfl B.c_MAX_SUITS.choose_spec ⟨_, rfl⟩)))))) pss_never pss_nil))), fun vs Q => fn_pure (N := N_check_pack) (fun ds d h => ?_) (fun B S ds d h D hR hN => ?_) vs H Q E0⟩), hm, F.kp, F.binds fun _ _ _ _ _ _ us hl => match us, hl with | [_, _], _ => rfl⟩
  · obtain ⟨ranks, suits, rfl, h0, rfl⟩ := h; rfl
  · obtain ⟨ranks, suits, rfl, h0, rfl⟩ := h; simp
  · obtain ⟨ranks, suits, rfl, h0, rfl⟩ := h
    obtain ⟨⟨hr1, hr2⟩, hs1, hs2⟩ := h0
    show Ss _ _ [.da (PyData.int ranks), .da (PyData.int suits)] _ _
    refine s_seq (s_skip (et_or (et_not (et_truB (ed_call (ds := [(PyData.int ranks)]) (ea_cons (ed_var rfl) ea_nil) ⟨(PyData.int ranks), rfl, rfl⟩))) (fun hb2 => (et_not (et_chain (ed_chain ed_int (ed_var rfl) (fun hb1 => ed_int)))))) (by simp [isIntD, isi_int, isi_bool]; omega : ((!(isIntD ((PyData.int ranks)))) || (!(decide ((5 : Int) ≤ ranks) && decide (ranks ≤ (13 : Int))))) = false) ?_)
    refine (s_skip (et_or (et_not (et_truB (ed_call (ds := [(PyData.int suits)]) (ea_cons (ed_var rfl) ea_nil) ⟨(PyData.int suits), rfl, rfl⟩))) (fun hb4 => (et_not (et_chain (ed_chain ed_int (ed_var rfl) (fun hb3 => ed_int)))))) (by simp [isIntD, isi_int, isi_bool]; omega : ((!(isIntD ((PyData.int suits)))) || (!(decide ((1 : Int) ≤ suits) && decide (suits ≤ (6 : Int))))) = false) ?_)
    exact hN rfl _ _

/-! ### is_card -/
abbrev s_is_card : Stmt := topS 14
abbrev N_is_card : List Str := ["ranks", "suits", "value"]
theorem sc_is_card : FnScope N_is_card ["ranks", "suits", "value"] (defScope s_is_card) := ⟨rfl, rfl, rfl, by decide +kernel, rfl, by decide +kernel, by decide +kernel⟩
def R_is_card : List PyData → PyData → Prop := fun ds d => ∃ (ranks : Int) (suits : Int) (value : (Int × Int)), ds = [(PyData.int ranks), (PyData.int suits), ((eP PyData.int PyData.int) value)] ∧ (InPk ranks suits value) ∧ d = (PyData.bool (true))
set_option maxHeartbeats 4000000 in
theorem ok_is_card {P : Program} {w : World} {K : PySem.W.Frag} {mg : Str → Option Value} {base : Heap} (B : Gb K mg) (F : Fd K mg "is_card" s_is_card) (C_is_integer : Cl P w K mg base 1 "is_integer" ["value"] (SpP K R_is_integer)) : Cl P w K mg base 2 "is_card" ["ranks", "suits", "value"] (SpP K R_is_card) := by
  have BG := B
  obtain ⟨f, fd, F, hm⟩ := F.ex
  refine ⟨f, fd, fnG_of (k := 1) F sc_is_card (spP_len fun ds d h => ?_) (fun cdv A outer s H hr hgd => ⟨_, (pss_cons (ps_if (PW.pt (pw_or (pt_not (pt_truth (pe_callB (r := rIsi K) call_isi (by rfl) B.isinstance_ boot_isinstance (pa_cons (pv 2) (pa_cons (pe_bltn (v := .ty "tuple") (u := .type "tuple") (by rfl) B.tuple_ PyProof.Rows.boot_tuple rfl) pa_nil))) (fun _ => rfl))) (pw_or (pt_cmpR (r := rNeD K) (op_neD hr.units) (pe_callB (r := rLenS K) call_len_seq (by rfl) B.len_ PySem.boot_len (pa_cons (pv 2) pa_nil)) pe_int (nomark _)) (pw_or (pt_not (pt_truth (pe_cl C_is_integer (hr.mono (by decide)) hgd (by rfl) (pa_cons (pe_ix (r := rIxT K) ix_tup (pv 2) pe_int (fun _ _ => rfl)) pa_nil)) (fun _ => rfl))) (pw_or1 (pt_not (pt_truth (pe_cl C_is_integer (hr.mono (by decide)) hgd (by rfl) (pa_cons (pe_ix (r := rIxT K) ix_tup (pv 2) pe_int (fun _ _ => rfl)) pa_nil)) (fun _ => rfl)))))))) pss_never pss_nil) (pss_one (ps_ret (pe_and (pe_chain op_le op_lt pe_int (pe_ix (r := rIxT K) ix_tup (pv 2) pe_int (fun _ _ => rfl)) (pv 0)) (pe_one (pe_chain op_le op_lt pe_int (pe_ix (r := rIxT K) ix_tup (pv 2) pe_int (fun _ _ => rfl)) (pv 1))))))), fun vs Q => fn_pure (N := N_is_card) (fun ds d h => ?_) (fun B S ds d h D hR hN => ?_) vs H Q E0⟩), hm, F.kp, F.binds fun _ _ _ _ _ _ us hl => match us, hl with | [_, _, _], _ => rfl⟩
  · obtain ⟨ranks, suits, value, rfl, h0, rfl⟩ := h; rfl
  · obtain ⟨ranks, suits, value, rfl, h0, rfl⟩ := h; simp
  · obtain ⟨ranks, suits, value, rfl, h0, rfl⟩ := h
    obtain ⟨⟨hr1, hr2⟩, hs1, hs2⟩ := h0
    show Ss _ _ [.da (PyData.int ranks), .da (PyData.int suits), .da ((eP PyData.int PyData.int) value)] _ _
    refine s_seq (s_if (b := ((!true) || ((!decide ((2 : Int) = (2 : Int))) || ((!(isIntD ((PyData.int (value).1)))) || (!(isIntD ((PyData.int (value).2)))))))) (et_or (et_not (et_truB (ed_isi (ed_var rfl) (show kitB "tuple" "tuple" = some true by decide +kernel)))) (fun hb3 => (et_or (et_test (ed_neI (ed_is (ed_lenT (ed_var rfl)) rfl) ed_int)) (fun hb2 => (et_or (et_not (et_truB (ed_call (ds := [(PyData.int (value).1)]) (ea_cons (ed_ixT (ed_var rfl) ed_int rfl) ea_nil) ⟨(PyData.int (value).1), rfl, rfl⟩))) (fun hb1 => (et_not (et_truB (ed_call (ds := [(PyData.int (value).2)]) (ea_cons (ed_ixT (ed_var rfl) ed_int rfl) ea_nil) ⟨(PyData.int (value).2), rfl, rfl⟩))))))))) (fun hc0 => ?_) (fun hc0 => ?_))
    · exact absurd hc0 (by simp [isIntD, isi_int, isi_bool])
    · refine s_next ?_
      exact s_ret (ed_is (ed_and (ed_chain ed_int (ed_ixT (ed_var rfl) ed_int rfl) (fun hb4 => (ed_var rfl))) (fun hb6 => (ed_chain ed_int (ed_ixT (ed_var rfl) ed_int rfl) (fun hb5 => (ed_var rfl))))) (by rw [decide_eq_true hr1, decide_eq_true hr2, decide_eq_true hs1, decide_eq_true hs2]; rfl : (PyData.bool ((decide ((0 : Int) ≤ (value).1) && decide ((value).1 < ranks)) && (decide ((0 : Int) ≤ (value).2) && decide ((value).2 < suits)))) = (PyData.bool (true)))) hR

/-! ### are_cards -/
abbrev s_are_cards : Stmt := topS 15
abbrev N_are_cards : List Str := ["ranks", "suits", "value", "many", "card", "at"]
theorem sc_are_cards : FnScope N_are_cards ["ranks", "suits", "value", "many"] (defScope s_are_cards) := ⟨rfl, rfl, rfl, by decide +kernel, rfl, by decide +kernel, by decide +kernel⟩
def R_are_cards : List PyData → PyData → Prop := fun ds d => ∃ (ranks : Int) (suits : Int) (value : (List (Int × Int))) (many : Int), ds = [(PyData.int ranks), (PyData.int suits), ((eT (eP PyData.int PyData.int)) value), (PyData.int many)] ∧ (0 ≤ many ∧ many ≤ 8) ∧ (CardsOk ranks suits value) ∧ d = (PyData.bool (decide ((value.length : Int) = many)))
set_option maxHeartbeats 4000000 in
theorem ok_are_cards {P : Program} {w : World} {K : PySem.W.Frag} {mg : Str → Option Value} {base : Heap} (B : Gb K mg) (F : Fd K mg "are_cards" s_are_cards) (C_is_card : Cl P w K mg base 2 "is_card" ["ranks", "suits", "value"] (SpP K R_is_card)) : Cl P w K mg base 3 "are_cards" ["ranks", "suits", "value", "many"] (SpP K R_are_cards) := by
  have BG := B
  obtain ⟨f, fd, F, hm⟩ := F.ex
  refine ⟨f, fd, fnG_of (k := 2) F sc_are_cards (spP_len fun ds d h => ?_) (fun cdv A outer s H hr hgd => ⟨_, (pss_cons (ps_if (PW.pt (pw_or (pt_not (pt_truth (pe_callB (r := rIsi K) call_isi (by rfl) B.isinstance_ boot_isinstance (pa_cons (pv 2) (pa_cons (pe_bltn (v := .ty "tuple") (u := .type "tuple") (by rfl) B.tuple_ PyProof.Rows.boot_tuple rfl) pa_nil))) (fun _ => rfl))) (pw_or (pt_cmpR (r := rNeD K) (op_neD hr.units) (pe_callB (r := rLenS K) call_len_seq (by rfl) B.len_ PySem.boot_len (pa_cons (pv 2) pa_nil)) (pv 3) (nomark _)) (pw_or1 (pt_not (pt_truth (pe_callB (r := rAll K) (cr_all rfl) (by rfl) B.all_ (by decide +kernel) (pa_cons (pe_lc (own := [("card", 4)]) (g := _) (tt := tYes) rfl sc_are_cards.nd (pi_tup (pv 2)) (blkOk_by (N := N_are_cards) (sc := defScope s_are_cards) (by decide +kernel)) (fun _ _ _ _ _ => (pg_name (i := 4) sc_are_cards.nd rfl (by first | exact Or.inl rfl | exact Or.inr rfl))) (fun _ _ _ _ _ => pts_nil) (fun _ _ _ _ _ => (pe_cl C_is_card (hr.mono (by decide)) hgd (by rfl) (pa_cons (pv 0) (pa_cons (pv 1) (pa_cons (pv 4) pa_nil)))))) pa_nil)) (fun _ => rfl))))))) (pss_one (ps_ret pe_bl)) pss_nil) (pss_one (ps_ret (pe_callB (r := rAll K) (cr_all rfl) (by rfl) B.all_ (by decide +kernel) (pa_cons (pe_lc (own := [("at", 5)]) (g := _) (tt := tYes) rfl sc_are_cards.nd (pi_range1 (by rfl) B.range_ (pa_cons (pe_op op_sub (pv 3) pe_int) pa_nil)) (blkOk_by (N := N_are_cards) (sc := defScope s_are_cards) (by decide +kernel)) (fun _ _ _ _ _ => (pg_name (i := 5) sc_are_cards.nd rfl (by first | exact Or.inl rfl | exact Or.inr rfl))) (fun _ _ _ _ _ => pts_nil) (fun _ _ _ _ _ => (pe_cmpR (r := rCmpD K PySem.W.dataLt) (op_ltD hr.units) (pe_ix (r := rIxT K) ix_tup (pv 2) (pv 5) (fun _ _ => rfl)) (pe_ix (r := rIxT K) ix_tup (pv 2) (pe_op op_add (pv 5) pe_int) (fun _ _ => rfl)) (nomark _)))) pa_nil))))), fun vs Q => fn_pure (N := N_are_cards) (fun ds d h => ?_) (fun B S ds d h D hR hN => ?_) vs H Q E0⟩), hm, F.kp, F.binds fun _ _ _ _ _ _ us hl => match us, hl with | [_, _, _, _], _ => rfl⟩
  · obtain ⟨ranks, suits, value, many, rfl, h0, h1, rfl⟩ := h; rfl
  · obtain ⟨ranks, suits, value, many, rfl, h0, h1, rfl⟩ := h; simp
  · obtain ⟨ranks, suits, value, many, rfl, h0, h1, rfl⟩ := h
    have hin := h1.1
    show Ss _ _ [.da (PyData.int ranks), .da (PyData.int suits), .da ((eT (eP PyData.int PyData.int)) value), .da (PyData.int many), .no, .no] _ _
    refine s_seq (s_if (b := ((!true) || ((!decide (((value).length : Int) = many)) || (!((((value).map fun (x1 : (Int × Int)) => (true))).all id))))) (et_or (et_not (et_truB (ed_isi (ed_var rfl) (show kitB "tuple" "tuple" = some true by decide +kernel)))) (fun hb3 => (et_or (et_test (ed_neI (ed_lenTX (ed_var rfl)) (ed_var rfl))) (fun hb2 => (et_not (et_truB (ed_all (ed_L (el_lcAX (xs := value) (ea := fun x => Itm.hard ((eP PyData.int PyData.int) x)) (enc := PyData.bool) (fb := fun (x1 : (Int × Int)) => (true)) (ei_tupX (ed_var rfl)) (by exact len_of (by assumption) h0) (by simp) (fun _ _ x1 hx1 => ⟨_, rfl, (eg_name (by simp)), (ed_call (ds := [(PyData.int ranks), (PyData.int suits), ((eP PyData.int PyData.int) x1)]) (ea_cons (ed_var rfl) (ea_cons (ed_var rfl) (ea_cons (ed_var rfl) ea_nil))) ⟨ranks, suits, x1, rfl, by exact hin _ (by assumption), rfl⟩)⟩)))))))))) (fun hc0 => ?_) (fun hc0 => ?_))
    · exact s_ret (ed_is ed_bl (by exact congrArg PyData.bool (are_no hc0) : (PyData.bool false) = (PyData.bool (decide ((value.length : Int) = many))))) hR
    · refine s_next ?_
      exact s_ret (ed_is (ed_all (ed_L (el_lcAX (xs := (List.range ((many - (1 : Int))).toNat)) (ea := fun (i : Nat) => Itm.hard (PyData.int (i : Int))) (enc := PyData.bool) (fb := fun (x4 : Nat) => (PySem.W.dataLt ((eP PyData.int PyData.int) (ixG value (x4 : Int))) ((eP PyData.int PyData.int) (ixG value ((x4 : Int) + (1 : Int)))))) (ei_rng (ed_I0 (ed_var rfl) ed_int) (by omega)) (by simp; omega) (by simp) (fun _ _ x4 hx4 => ⟨_, rfl, (eg_name (by simp)), (ed_cmpD (f := PySem.W.dataLt) (ed_ixTX (f := (eP PyData.int PyData.int)) (l := value) (ed_var rfl) (ed_var rfl) (by exact inb (by have := List.mem_range.mp (by assumption); have := are_len hc0; omega))) (ed_ixTX (f := (eP PyData.int PyData.int)) (l := value) (ed_var rfl) (ed_I0 (ed_var rfl) ed_int) (by exact inb (by have := List.mem_range.mp (by assumption); have := are_len hc0; omega))) (by exact card_alike _ _) (by exact fun h => nomatch h) (by exact card_depth _))⟩)))) (by rw [decide_eq_true (are_len hc0), all_id (fun x hx => by have := List.mem_range.mp hx; have := are_len hc0; rw [card_lt]; exact decide_eq_true (asc_card h1.2 (ixG_some (by omega)) (ixG_some (by omega)) (by omega)))] : (PyData.bool (((((List.range ((many - (1 : Int))).toNat)).map fun (x4 : Nat) => (PySem.W.dataLt ((eP PyData.int PyData.int) (ixG value (x4 : Int))) ((eP PyData.int PyData.int) (ixG value ((x4 : Int) + (1 : Int))))))).all id)) = (PyData.bool (decide ((value.length : Int) = many))))) hR

/-! ### check_hand -/
abbrev s_check_hand : Stmt := topS 16
abbrev N_check_hand : List Str := ["ranks", "suits", "hand"]
theorem sc_check_hand : FnScope N_check_hand ["ranks", "suits", "hand"] (defScope s_check_hand) := ⟨rfl, rfl, rfl, by decide +kernel, rfl, by decide +kernel, by decide +kernel⟩
def R_check_hand : List PyData → PyData → Prop := fun ds d => ∃ (ranks : Int) (suits : Int) (hand : (List (Int × Int))), ds = [(PyData.int ranks), (PyData.int suits), ((eT (eP PyData.int PyData.int)) hand)] ∧ (PackOk ranks suits) ∧ (CardsOk ranks suits hand) ∧ (hand.length = 5) ∧ d = PyData.none
set_option maxHeartbeats 4000000 in
theorem ok_check_hand {P : Program} {w : World} {K : PySem.W.Frag} {mg : Str → Option Value} {base : Heap} (B : Gb K mg) (F : Fd K mg "check_hand" s_check_hand) (C_are_cards : Cl P w K mg base 3 "are_cards" ["ranks", "suits", "value", "many"] (SpP K R_are_cards)) (C_check_pack : Cl P w K mg base 2 "check_pack" ["ranks", "suits"] (SpP K R_check_pack)) : Cl P w K mg base 4 "check_hand" ["ranks", "suits", "hand"] (SpP K R_check_hand) := by
  have BG := B
  obtain ⟨f, fd, F, hm⟩ := F.ex
  refine ⟨f, fd, fnG_of (k := 3) F sc_check_hand (spP_len fun ds d h => ?_) (fun cdv A outer s H hr hgd => ⟨_, (pss_cons (ps_expr (pe_cl C_check_pack (hr.mono (by decide)) hgd (by rfl) (pa_cons (pv 0) (pa_cons (pv 1) pa_nil)))) (pss_one (ps_if (pt_not (pt_truth (pe_cl C_are_cards (hr.mono (by decide)) hgd (by rfl) (pa_cons (pv 0) (pa_cons (pv 1) (pa_cons (pv 2) (pa_cons pe_int pa_nil))))) (fun _ => rfl))) pss_never pss_nil))), fun vs Q => fn_pure (N := N_check_hand) (fun ds d h => ?_) (fun B S ds d h D hR hN => ?_) vs H Q E0⟩), hm, F.kp, F.binds fun _ _ _ _ _ _ us hl => match us, hl with | [_, _, _], _ => rfl⟩
  · obtain ⟨ranks, suits, hand, rfl, h0, h1, h2, rfl⟩ := h; rfl
  · obtain ⟨ranks, suits, hand, rfl, h0, h1, h2, rfl⟩ := h; simp
  · obtain ⟨ranks, suits, hand, rfl, h0, h1, h2, rfl⟩ := h
    show Ss _ _ [.da (PyData.int ranks), .da (PyData.int suits), .da ((eT (eP PyData.int PyData.int)) hand)] _ _
    refine s_seq (s_drop (ed_call (ds := [(PyData.int ranks), (PyData.int suits)]) (ea_cons (ed_var rfl) (ea_cons (ed_var rfl) ea_nil)) ⟨ranks, suits, rfl, by assumption, rfl⟩) ?_)
    refine (s_skip (et_not (et_truB (ed_call (ds := [(PyData.int ranks), (PyData.int suits), ((eT (eP PyData.int PyData.int)) hand), (PyData.int (5 : Int))]) (ea_cons (ed_var rfl) (ea_cons (ed_var rfl) (ea_cons (ed_var rfl) (ea_cons ed_int ea_nil)))) ⟨ranks, suits, hand, (5 : Int), rfl, by omega, by assumption, rfl⟩))) (by simp; omega : (!(decide (((hand).length : Int) = ((5 : Int))))) = false) ?_)
    exact hN rfl _ _

/-! ### count_sorts -/
abbrev s_count_sorts : Stmt := topS 22
abbrev N_count_sorts : List Str := ["ranks", "suits", "rows", "both", "four", "house", "suit", "row", "three", "pairs", "pair", "high"]
theorem sc_count_sorts : FnScope N_count_sorts ["ranks", "suits"] (defScope s_count_sorts) := ⟨rfl, rfl, rfl, by decide +kernel, rfl, by decide +kernel, by decide +kernel⟩
def R_count_sorts : List PyData → PyData → Prop := fun ds d => ∃ (ranks : Int) (suits : Int), ds = [(PyData.int ranks), (PyData.int suits)] ∧ (PackOk ranks suits) ∧ d = (eI9 (sortsF ranks suits))
set_option maxHeartbeats 4000000 in
theorem ok_count_sorts {P : Program} {w : World} {K : PySem.W.Frag} {mg : Str → Option Value} {base : Heap} (B : Gb K mg) (F : Fd K mg "count_sorts" s_count_sorts) (C_check_pack : Cl P w K mg base 2 "check_pack" ["ranks", "suits"] (SpP K R_check_pack)) (C_choose : Cl P w K mg base 1 "choose" ["many", "few"] (SpP K R_choose)) : Cl P w K mg base 3 "count_sorts" ["ranks", "suits"] (SpP K R_count_sorts) := by
  have BG := B
  obtain ⟨f, fd, F, hm⟩ := F.ex
  refine ⟨f, fd, fnG_of (k := 2) F sc_count_sorts (spP_len fun ds d h => ?_) (fun cdv A outer s H hr hgd => ⟨_, (pss_cons (ps_expr (pe_cl C_check_pack (hr.mono (by decide)) hgd (by rfl) (pa_cons (pv 0) (pa_cons (pv 1) pa_nil)))) (pss_cons (ps_set (i := 2) sc_count_sorts.nd rfl (Or.inl rfl) (pe_op op_sub (pv 0) pe_int)) (pss_cons (ps_set (i := 3) sc_count_sorts.nd rfl (Or.inl rfl) (pe_op op_mulG (pv 2) (pv 1))) (pss_cons (ps_set (i := 4) sc_count_sorts.nd rfl (Or.inl rfl) (pe_op op_add (pe_op op_mulG (pe_op op_mulG (pe_op op_mulG (pv 0) (pe_cl C_choose (hr.mono (by decide)) hgd (by rfl) (pa_cons (pv 1) (pa_cons pe_int pa_nil)))) (pe_op op_sub (pv 0) pe_int)) (pv 1)) (pe_op op_mulG (pv 0) (pe_cl C_choose (hr.mono (by decide)) hgd (by rfl) (pa_cons (pv 1) (pa_cons pe_int pa_nil)))))) (pss_cons (ps_set (i := 5) sc_count_sorts.nd rfl (Or.inl rfl) (pe_op op_mulG (pe_op op_mulG (pe_op op_mulG (pv 0) (pe_cl C_choose (hr.mono (by decide)) hgd (by rfl) (pa_cons (pv 1) (pa_cons pe_int pa_nil)))) (pe_op op_sub (pv 0) pe_int)) (pe_cl C_choose (hr.mono (by decide)) hgd (by rfl) (pa_cons (pv 1) (pa_cons pe_int pa_nil))))) (pss_cons (ps_set (i := 6) sc_count_sorts.nd rfl (Or.inl rfl) (pe_op op_mulG (pv 1) (pe_op op_sub (pe_cl C_choose (hr.mono (by decide)) hgd (by rfl) (pa_cons (pv 0) (pa_cons pe_int pa_nil))) (pv 2)))) (pss_cons (ps_set (i := 7) sc_count_sorts.nd rfl (Or.inl rfl) (pe_op op_mulG (pv 2) (pe_op op_sub (pe_op op_mulG (pe_op op_mulG (pe_op op_mulG (pe_op op_mulG (pv 1) (pv 1)) (pv 1)) (pv 1)) (pv 1)) (pv 1)))) (pss_cons (ps_set (i := 8) sc_count_sorts.nd rfl (Or.inl rfl) (pe_op op_mulG (pe_op op_mulG (pe_op op_mulG (pe_op op_mulG (pv 0) (pe_cl C_choose (hr.mono (by decide)) hgd (by rfl) (pa_cons (pv 1) (pa_cons pe_int pa_nil)))) (pe_cl C_choose (hr.mono (by decide)) hgd (by rfl) (pa_cons (pe_op op_sub (pv 0) pe_int) (pa_cons pe_int pa_nil)))) (pv 1)) (pv 1))) (pss_cons (ps_set (i := 9) sc_count_sorts.nd rfl (Or.inl rfl) (pe_op op_mulG (pe_op op_mulG (pe_op op_mulG (pe_op op_mulG (pe_cl C_choose (hr.mono (by decide)) hgd (by rfl) (pa_cons (pv 0) (pa_cons pe_int pa_nil))) (pe_cl C_choose (hr.mono (by decide)) hgd (by rfl) (pa_cons (pv 1) (pa_cons pe_int pa_nil)))) (pe_cl C_choose (hr.mono (by decide)) hgd (by rfl) (pa_cons (pv 1) (pa_cons pe_int pa_nil)))) (pe_op op_sub (pv 0) pe_int)) (pv 1))) (pss_cons (ps_set (i := 10) sc_count_sorts.nd rfl (Or.inl rfl) (pe_op op_mulG (pe_op op_mulG (pe_op op_mulG (pe_op op_mulG (pe_op op_mulG (pv 0) (pe_cl C_choose (hr.mono (by decide)) hgd (by rfl) (pa_cons (pv 1) (pa_cons pe_int pa_nil)))) (pe_cl C_choose (hr.mono (by decide)) hgd (by rfl) (pa_cons (pe_op op_sub (pv 0) pe_int) (pa_cons pe_int pa_nil)))) (pv 1)) (pv 1)) (pv 1))) (pss_cons (ps_set (i := 11) sc_count_sorts.nd rfl (Or.inl rfl) (pe_op op_sub (pe_op op_sub (pe_op op_sub (pe_op op_sub (pe_op op_sub (pe_op op_sub (pe_op op_sub (pe_op op_sub (pe_cl C_choose (hr.mono (by decide)) hgd (by rfl) (pa_cons (pe_op op_mulG (pv 0) (pv 1)) (pa_cons pe_int pa_nil))) (pv 3)) (pv 4)) (pv 5)) (pv 6)) (pv 7)) (pv 8)) (pv 9)) (pv 10))) (pss_one (ps_ret (pe_tupF (pa_cons (pv 11) (pa_cons (pv 10) (pa_cons (pv 9) (pa_cons (pv 8) (pa_cons (pv 7) (pa_cons (pv 6) (pa_cons (pv 5) (pa_cons (pv 4) (pa_cons (pv 3) pa_nil))))))))))))))))))))))), fun vs Q => fn_pure (N := N_count_sorts) (fun ds d h => ?_) (fun B S ds d h D hR hN => ?_) vs H Q E0⟩), hm, F.kp, F.binds fun _ _ _ _ _ _ us hl => match us, hl with | [_, _], _ => rfl⟩
  · obtain ⟨ranks, suits, rfl, h0, rfl⟩ := h; rfl
  · obtain ⟨ranks, suits, rfl, h0, rfl⟩ := h; simp
  · obtain ⟨ranks, suits, rfl, h0, rfl⟩ := h
    obtain ⟨⟨hr1, hr2⟩, hs1, hs2⟩ := h0
    have hc1 := chI_sm (n := suits) 4 (by omega)
    have hc2 := chI_sm (n := suits) 5 (by omega)
    have hc3 := chI_sm (n := suits) 3 (by omega)
    have hc4 := chI_sm (n := suits) 2 (by omega)
    have hc5 := chI_sm (n := ranks) 5 (by omega)
    have hc6 := chI_sm (n := ranks) 2 (by omega)
    have hc7 := chI_sm (n := ranks - 1) 2 (by omega)
    have hc8 := chI_sm (n := ranks - 1) 3 (by omega)
    have hrs : 0 ≤ ranks * suits ∧ ranks * suits ≤ 78 := ⟨Int.mul_nonneg (by omega) (by omega), Int.le_trans (Int.mul_le_mul hr2 hs2 (by omega) (by decide)) (by decide)⟩
    show Ss _ _ [.da (PyData.int ranks), .da (PyData.int suits), .no, .no, .no, .no, .no, .no, .no, .no, .no, .no] _ _
    refine s_seq (s_drop (ed_call (ds := [(PyData.int ranks), (PyData.int suits)]) (ea_cons (ed_var rfl) (ea_cons (ed_var rfl) ea_nil)) ⟨ranks, suits, rfl, by exact ⟨⟨hr1, hr2⟩, hs1, hs2⟩, rfl⟩) ?_)
    refine s_seq (s_asg (ed_I0 (ed_var rfl) ed_int) (s_le (ρ1 := [.da (PyData.int ranks), .da (PyData.int suits), .da (PyData.int (ranks - (4 : Int))), .no, .no, .no, .no, .no, .no, .no, .no, .no]) (le_rfl rfl) ?_))
    refine s_seq (s_asg (ed_I (ed_var rfl) (ed_var rfl) (by first | exact mul_r (by omega) (by omega) | exact mul_l (by omega) (by omega))) (s_le (ρ1 := [.da (PyData.int ranks), .da (PyData.int suits), .da (PyData.int (ranks - (4 : Int))), .da (PyData.int ((ranks - (4 : Int)) * suits)), .no, .no, .no, .no, .no, .no, .no, .no]) (le_rfl rfl) ?_))
    refine s_seq (s_asg (ed_I0 (ed_I (ed_I (ed_I (ed_var rfl) (ed_call (ds := [(PyData.int suits), (PyData.int (4 : Int))]) (ea_cons (ed_var rfl) (ea_cons ed_int ea_nil)) ⟨suits, (4 : Int), rfl, by omega, rfl⟩) (by first | exact mul_r (by omega) (by omega) | exact mul_l (by omega) (by omega))) (ed_I0 (ed_var rfl) ed_int) (by first | exact mul_r (by omega) (by omega) | exact mul_l (by omega) (by omega))) (ed_var rfl) (by first | exact mul_r (by omega) (by omega) | exact mul_l (by omega) (by omega))) (ed_I (ed_var rfl) (ed_call (ds := [(PyData.int suits), (PyData.int (5 : Int))]) (ea_cons (ed_var rfl) (ea_cons ed_int ea_nil)) ⟨suits, (5 : Int), rfl, by omega, rfl⟩) (by first | exact mul_r (by omega) (by omega) | exact mul_l (by omega) (by omega)))) (s_le (ρ1 := [.da (PyData.int ranks), .da (PyData.int suits), .da (PyData.int (ranks - (4 : Int))), .da (PyData.int ((ranks - (4 : Int)) * suits)), .da (PyData.int ((((ranks * (chI (suits) ((4 : Int)))) * (ranks - (1 : Int))) * suits) + (ranks * (chI (suits) ((5 : Int)))))), .no, .no, .no, .no, .no, .no, .no]) (le_rfl rfl) ?_))
    refine s_seq (s_asg (ed_I (ed_I (ed_I (ed_var rfl) (ed_call (ds := [(PyData.int suits), (PyData.int (3 : Int))]) (ea_cons (ed_var rfl) (ea_cons ed_int ea_nil)) ⟨suits, (3 : Int), rfl, by omega, rfl⟩) (by first | exact mul_r (by omega) (by omega) | exact mul_l (by omega) (by omega))) (ed_I0 (ed_var rfl) ed_int) (by first | exact mul_r (by omega) (by omega) | exact mul_l (by omega) (by omega))) (ed_call (ds := [(PyData.int suits), (PyData.int (2 : Int))]) (ea_cons (ed_var rfl) (ea_cons ed_int ea_nil)) ⟨suits, (2 : Int), rfl, by omega, rfl⟩) (by first | exact mul_r (by omega) (by omega) | exact mul_l (by omega) (by omega))) (s_le (ρ1 := [.da (PyData.int ranks), .da (PyData.int suits), .da (PyData.int (ranks - (4 : Int))), .da (PyData.int ((ranks - (4 : Int)) * suits)), .da (PyData.int ((((ranks * (chI (suits) ((4 : Int)))) * (ranks - (1 : Int))) * suits) + (ranks * (chI (suits) ((5 : Int)))))), .da (PyData.int (((ranks * (chI (suits) ((3 : Int)))) * (ranks - (1 : Int))) * (chI (suits) ((2 : Int))))), .no, .no, .no, .no, .no, .no]) (le_rfl rfl) ?_))
    refine s_seq (s_asg (ed_I (ed_var rfl) (ed_I0 (ed_call (ds := [(PyData.int ranks), (PyData.int (5 : Int))]) (ea_cons (ed_var rfl) (ea_cons ed_int ea_nil)) ⟨ranks, (5 : Int), rfl, by omega, rfl⟩) (ed_var rfl)) (by first | exact mul_r (by omega) (by omega) | exact mul_l (by omega) (by omega))) (s_le (ρ1 := [.da (PyData.int ranks), .da (PyData.int suits), .da (PyData.int (ranks - (4 : Int))), .da (PyData.int ((ranks - (4 : Int)) * suits)), .da (PyData.int ((((ranks * (chI (suits) ((4 : Int)))) * (ranks - (1 : Int))) * suits) + (ranks * (chI (suits) ((5 : Int)))))), .da (PyData.int (((ranks * (chI (suits) ((3 : Int)))) * (ranks - (1 : Int))) * (chI (suits) ((2 : Int))))), .da (PyData.int (suits * ((chI (ranks) ((5 : Int))) - (ranks - (4 : Int))))), .no, .no, .no, .no, .no]) (le_rfl rfl) ?_))
    refine s_seq (s_asg (ed_I (ed_var rfl) (ed_I0 (ed_I (ed_I (ed_I (ed_I (ed_var rfl) (ed_var rfl) (by first | exact mul_r (by omega) (by omega) | exact mul_l (by omega) (by omega))) (ed_var rfl) (by first | exact mul_r (by omega) (by omega) | exact mul_l (by omega) (by omega))) (ed_var rfl) (by first | exact mul_r (by omega) (by omega) | exact mul_l (by omega) (by omega))) (ed_var rfl) (by first | exact mul_r (by omega) (by omega) | exact mul_l (by omega) (by omega))) (ed_var rfl)) (by first | exact mul_r (by omega) (by omega) | exact mul_l (by omega) (by omega))) (s_le (ρ1 := [.da (PyData.int ranks), .da (PyData.int suits), .da (PyData.int (ranks - (4 : Int))), .da (PyData.int ((ranks - (4 : Int)) * suits)), .da (PyData.int ((((ranks * (chI (suits) ((4 : Int)))) * (ranks - (1 : Int))) * suits) + (ranks * (chI (suits) ((5 : Int)))))), .da (PyData.int (((ranks * (chI (suits) ((3 : Int)))) * (ranks - (1 : Int))) * (chI (suits) ((2 : Int))))), .da (PyData.int (suits * ((chI (ranks) ((5 : Int))) - (ranks - (4 : Int))))), .da (PyData.int ((ranks - (4 : Int)) * (((((suits * suits) * suits) * suits) * suits) - suits))), .no, .no, .no, .no]) (le_rfl rfl) ?_))
    refine s_seq (s_asg (ed_I (ed_I (ed_I (ed_I (ed_var rfl) (ed_call (ds := [(PyData.int suits), (PyData.int (3 : Int))]) (ea_cons (ed_var rfl) (ea_cons ed_int ea_nil)) ⟨suits, (3 : Int), rfl, by omega, rfl⟩) (by first | exact mul_r (by omega) (by omega) | exact mul_l (by omega) (by omega))) (ed_call (ds := [(PyData.int (ranks - (1 : Int))), (PyData.int (2 : Int))]) (ea_cons (ed_I0 (ed_var rfl) ed_int) (ea_cons ed_int ea_nil)) ⟨(ranks - (1 : Int)), (2 : Int), rfl, by omega, rfl⟩) (by first | exact mul_r (by omega) (by omega) | exact mul_l (by omega) (by omega))) (ed_var rfl) (by first | exact mul_r (by omega) (by omega) | exact mul_l (by omega) (by omega))) (ed_var rfl) (by first | exact mul_r (by omega) (by omega) | exact mul_l (by omega) (by omega))) (s_le (ρ1 := [.da (PyData.int ranks), .da (PyData.int suits), .da (PyData.int (ranks - (4 : Int))), .da (PyData.int ((ranks - (4 : Int)) * suits)), .da (PyData.int ((((ranks * (chI (suits) ((4 : Int)))) * (ranks - (1 : Int))) * suits) + (ranks * (chI (suits) ((5 : Int)))))), .da (PyData.int (((ranks * (chI (suits) ((3 : Int)))) * (ranks - (1 : Int))) * (chI (suits) ((2 : Int))))), .da (PyData.int (suits * ((chI (ranks) ((5 : Int))) - (ranks - (4 : Int))))), .da (PyData.int ((ranks - (4 : Int)) * (((((suits * suits) * suits) * suits) * suits) - suits))), .da (PyData.int ((((ranks * (chI (suits) ((3 : Int)))) * (chI ((ranks - (1 : Int))) ((2 : Int)))) * suits) * suits)), .no, .no, .no]) (le_rfl rfl) ?_))
    refine s_seq (s_asg (ed_I (ed_I (ed_I (ed_I (ed_call (ds := [(PyData.int ranks), (PyData.int (2 : Int))]) (ea_cons (ed_var rfl) (ea_cons ed_int ea_nil)) ⟨ranks, (2 : Int), rfl, by omega, rfl⟩) (ed_call (ds := [(PyData.int suits), (PyData.int (2 : Int))]) (ea_cons (ed_var rfl) (ea_cons ed_int ea_nil)) ⟨suits, (2 : Int), rfl, by omega, rfl⟩) (by first | exact mul_r (by omega) (by omega) | exact mul_l (by omega) (by omega))) (ed_call (ds := [(PyData.int suits), (PyData.int (2 : Int))]) (ea_cons (ed_var rfl) (ea_cons ed_int ea_nil)) ⟨suits, (2 : Int), rfl, by omega, rfl⟩) (by first | exact mul_r (by omega) (by omega) | exact mul_l (by omega) (by omega))) (ed_I0 (ed_var rfl) ed_int) (by first | exact mul_r (by omega) (by omega) | exact mul_l (by omega) (by omega))) (ed_var rfl) (by first | exact mul_r (by omega) (by omega) | exact mul_l (by omega) (by omega))) (s_le (ρ1 := [.da (PyData.int ranks), .da (PyData.int suits), .da (PyData.int (ranks - (4 : Int))), .da (PyData.int ((ranks - (4 : Int)) * suits)), .da (PyData.int ((((ranks * (chI (suits) ((4 : Int)))) * (ranks - (1 : Int))) * suits) + (ranks * (chI (suits) ((5 : Int)))))), .da (PyData.int (((ranks * (chI (suits) ((3 : Int)))) * (ranks - (1 : Int))) * (chI (suits) ((2 : Int))))), .da (PyData.int (suits * ((chI (ranks) ((5 : Int))) - (ranks - (4 : Int))))), .da (PyData.int ((ranks - (4 : Int)) * (((((suits * suits) * suits) * suits) * suits) - suits))), .da (PyData.int ((((ranks * (chI (suits) ((3 : Int)))) * (chI ((ranks - (1 : Int))) ((2 : Int)))) * suits) * suits)), .da (PyData.int (((((chI (ranks) ((2 : Int))) * (chI (suits) ((2 : Int)))) * (chI (suits) ((2 : Int)))) * (ranks - (2 : Int))) * suits)), .no, .no]) (le_rfl rfl) ?_))
    refine s_seq (s_asg (ed_I (ed_I (ed_I (ed_I (ed_I (ed_var rfl) (ed_call (ds := [(PyData.int suits), (PyData.int (2 : Int))]) (ea_cons (ed_var rfl) (ea_cons ed_int ea_nil)) ⟨suits, (2 : Int), rfl, by omega, rfl⟩) (by first | exact mul_r (by omega) (by omega) | exact mul_l (by omega) (by omega))) (ed_call (ds := [(PyData.int (ranks - (1 : Int))), (PyData.int (3 : Int))]) (ea_cons (ed_I0 (ed_var rfl) ed_int) (ea_cons ed_int ea_nil)) ⟨(ranks - (1 : Int)), (3 : Int), rfl, by omega, rfl⟩) (by first | exact mul_r (by omega) (by omega) | exact mul_l (by omega) (by omega))) (ed_var rfl) (by first | exact mul_r (by omega) (by omega) | exact mul_l (by omega) (by omega))) (ed_var rfl) (by first | exact mul_r (by omega) (by omega) | exact mul_l (by omega) (by omega))) (ed_var rfl) (by first | exact mul_r (by omega) (by omega) | exact mul_l (by omega) (by omega))) (s_le (ρ1 := [.da (PyData.int ranks), .da (PyData.int suits), .da (PyData.int (ranks - (4 : Int))), .da (PyData.int ((ranks - (4 : Int)) * suits)), .da (PyData.int ((((ranks * (chI (suits) ((4 : Int)))) * (ranks - (1 : Int))) * suits) + (ranks * (chI (suits) ((5 : Int)))))), .da (PyData.int (((ranks * (chI (suits) ((3 : Int)))) * (ranks - (1 : Int))) * (chI (suits) ((2 : Int))))), .da (PyData.int (suits * ((chI (ranks) ((5 : Int))) - (ranks - (4 : Int))))), .da (PyData.int ((ranks - (4 : Int)) * (((((suits * suits) * suits) * suits) * suits) - suits))), .da (PyData.int ((((ranks * (chI (suits) ((3 : Int)))) * (chI ((ranks - (1 : Int))) ((2 : Int)))) * suits) * suits)), .da (PyData.int (((((chI (ranks) ((2 : Int))) * (chI (suits) ((2 : Int)))) * (chI (suits) ((2 : Int)))) * (ranks - (2 : Int))) * suits)), .da (PyData.int (((((ranks * (chI (suits) ((2 : Int)))) * (chI ((ranks - (1 : Int))) ((3 : Int)))) * suits) * suits) * suits)), .no]) (le_rfl rfl) ?_))
    refine s_seq (s_asg (ed_I0 (ed_I0 (ed_I0 (ed_I0 (ed_I0 (ed_I0 (ed_I0 (ed_I0 (ed_call (ds := [(PyData.int (ranks * suits)), (PyData.int (5 : Int))]) (ea_cons (ed_I (ed_var rfl) (ed_var rfl) (by first | exact mul_r (by omega) (by omega) | exact mul_l (by omega) (by omega))) (ea_cons ed_int ea_nil)) ⟨(ranks * suits), (5 : Int), rfl, by omega, rfl⟩) (ed_var rfl)) (ed_var rfl)) (ed_var rfl)) (ed_var rfl)) (ed_var rfl)) (ed_var rfl)) (ed_var rfl)) (ed_var rfl)) (s_le (ρ1 := [.da (PyData.int ranks), .da (PyData.int suits), .da (PyData.int (ranks - (4 : Int))), .da (PyData.int ((ranks - (4 : Int)) * suits)), .da (PyData.int ((((ranks * (chI (suits) ((4 : Int)))) * (ranks - (1 : Int))) * suits) + (ranks * (chI (suits) ((5 : Int)))))), .da (PyData.int (((ranks * (chI (suits) ((3 : Int)))) * (ranks - (1 : Int))) * (chI (suits) ((2 : Int))))), .da (PyData.int (suits * ((chI (ranks) ((5 : Int))) - (ranks - (4 : Int))))), .da (PyData.int ((ranks - (4 : Int)) * (((((suits * suits) * suits) * suits) * suits) - suits))), .da (PyData.int ((((ranks * (chI (suits) ((3 : Int)))) * (chI ((ranks - (1 : Int))) ((2 : Int)))) * suits) * suits)), .da (PyData.int (((((chI (ranks) ((2 : Int))) * (chI (suits) ((2 : Int)))) * (chI (suits) ((2 : Int)))) * (ranks - (2 : Int))) * suits)), .da (PyData.int (((((ranks * (chI (suits) ((2 : Int)))) * (chI ((ranks - (1 : Int))) ((3 : Int)))) * suits) * suits) * suits)), .da (PyData.int (((((((((chI ((ranks * suits)) ((5 : Int))) - ((ranks - (4 : Int)) * suits)) - ((((ranks * (chI (suits) ((4 : Int)))) * (ranks - (1 : Int))) * suits) + (ranks * (chI (suits) ((5 : Int)))))) - (((ranks * (chI (suits) ((3 : Int)))) * (ranks - (1 : Int))) * (chI (suits) ((2 : Int))))) - (suits * ((chI (ranks) ((5 : Int))) - (ranks - (4 : Int))))) - ((ranks - (4 : Int)) * (((((suits * suits) * suits) * suits) * suits) - suits))) - ((((ranks * (chI (suits) ((3 : Int)))) * (chI ((ranks - (1 : Int))) ((2 : Int)))) * suits) * suits)) - (((((chI (ranks) ((2 : Int))) * (chI (suits) ((2 : Int)))) * (chI (suits) ((2 : Int)))) * (ranks - (2 : Int))) * suits)) - (((((ranks * (chI (suits) ((2 : Int)))) * (chI ((ranks - (1 : Int))) ((3 : Int)))) * suits) * suits) * suits)))]) (le_rfl rfl) ?_))
    exact s_ret (ed_is (ed_tup (ds := [(PyData.int (((((((((chI ((ranks * suits)) ((5 : Int))) - ((ranks - (4 : Int)) * suits)) - ((((ranks * (chI (suits) ((4 : Int)))) * (ranks - (1 : Int))) * suits) + (ranks * (chI (suits) ((5 : Int)))))) - (((ranks * (chI (suits) ((3 : Int)))) * (ranks - (1 : Int))) * (chI (suits) ((2 : Int))))) - (suits * ((chI (ranks) ((5 : Int))) - (ranks - (4 : Int))))) - ((ranks - (4 : Int)) * (((((suits * suits) * suits) * suits) * suits) - suits))) - ((((ranks * (chI (suits) ((3 : Int)))) * (chI ((ranks - (1 : Int))) ((2 : Int)))) * suits) * suits)) - (((((chI (ranks) ((2 : Int))) * (chI (suits) ((2 : Int)))) * (chI (suits) ((2 : Int)))) * (ranks - (2 : Int))) * suits)) - (((((ranks * (chI (suits) ((2 : Int)))) * (chI ((ranks - (1 : Int))) ((3 : Int)))) * suits) * suits) * suits))), (PyData.int (((((ranks * (chI (suits) ((2 : Int)))) * (chI ((ranks - (1 : Int))) ((3 : Int)))) * suits) * suits) * suits)), (PyData.int (((((chI (ranks) ((2 : Int))) * (chI (suits) ((2 : Int)))) * (chI (suits) ((2 : Int)))) * (ranks - (2 : Int))) * suits)), (PyData.int ((((ranks * (chI (suits) ((3 : Int)))) * (chI ((ranks - (1 : Int))) ((2 : Int)))) * suits) * suits)), (PyData.int ((ranks - (4 : Int)) * (((((suits * suits) * suits) * suits) * suits) - suits))), (PyData.int (suits * ((chI (ranks) ((5 : Int))) - (ranks - (4 : Int))))), (PyData.int (((ranks * (chI (suits) ((3 : Int)))) * (ranks - (1 : Int))) * (chI (suits) ((2 : Int))))), (PyData.int ((((ranks * (chI (suits) ((4 : Int)))) * (ranks - (1 : Int))) * suits) + (ranks * (chI (suits) ((5 : Int)))))), (PyData.int ((ranks - (4 : Int)) * suits))]) (ea_cons (ed_var rfl) (ea_cons (ed_var rfl) (ea_cons (ed_var rfl) (ea_cons (ed_var rfl) (ea_cons (ed_var rfl) (ea_cons (ed_var rfl) (ea_cons (ed_var rfl) (ea_cons (ed_var rfl) (ea_cons (ed_var rfl) ea_nil)))))))))) (by rfl : (eI9 ((((((((((chI ((ranks * suits)) ((5 : Int))) - ((ranks - (4 : Int)) * suits)) - ((((ranks * (chI (suits) ((4 : Int)))) * (ranks - (1 : Int))) * suits) + (ranks * (chI (suits) ((5 : Int)))))) - (((ranks * (chI (suits) ((3 : Int)))) * (ranks - (1 : Int))) * (chI (suits) ((2 : Int))))) - (suits * ((chI (ranks) ((5 : Int))) - (ranks - (4 : Int))))) - ((ranks - (4 : Int)) * (((((suits * suits) * suits) * suits) * suits) - suits))) - ((((ranks * (chI (suits) ((3 : Int)))) * (chI ((ranks - (1 : Int))) ((2 : Int)))) * suits) * suits)) - (((((chI (ranks) ((2 : Int))) * (chI (suits) ((2 : Int)))) * (chI (suits) ((2 : Int)))) * (ranks - (2 : Int))) * suits)) - (((((ranks * (chI (suits) ((2 : Int)))) * (chI ((ranks - (1 : Int))) ((3 : Int)))) * suits) * suits) * suits)), (((((ranks * (chI (suits) ((2 : Int)))) * (chI ((ranks - (1 : Int))) ((3 : Int)))) * suits) * suits) * suits), (((((chI (ranks) ((2 : Int))) * (chI (suits) ((2 : Int)))) * (chI (suits) ((2 : Int)))) * (ranks - (2 : Int))) * suits), ((((ranks * (chI (suits) ((3 : Int)))) * (chI ((ranks - (1 : Int))) ((2 : Int)))) * suits) * suits), ((ranks - (4 : Int)) * (((((suits * suits) * suits) * suits) * suits) - suits)), (suits * ((chI (ranks) ((5 : Int))) - (ranks - (4 : Int)))), (((ranks * (chI (suits) ((3 : Int)))) * (ranks - (1 : Int))) * (chI (suits) ((2 : Int)))), ((((ranks * (chI (suits) ((4 : Int)))) * (ranks - (1 : Int))) * suits) + (ranks * (chI (suits) ((5 : Int))))), ((ranks - (4 : Int)) * suits))) = (eI9 (sortsF ranks suits)))) hR

/-! ### shape_of -/
abbrev s_shape_of : Stmt := topS 17
abbrev N_shape_of : List Str := ["hand", "counts", "rank", "suit", "many"]
theorem sc_shape_of : FnScope N_shape_of ["hand"] (defScope s_shape_of) := ⟨rfl, rfl, rfl, by decide +kernel, rfl, by decide +kernel, by decide +kernel⟩
def R_shape_of : List PyData → PyData → Prop := fun ds d => ∃ (hand : (List (Int × Int))), ds = [((eT (eP PyData.int PyData.int)) hand)] ∧ (hand.length ≤ 60) ∧ d = ((eL (eP PyData.int PyData.int)) (manyL hand))
set_option maxHeartbeats 4000000 in
theorem ok_shape_of {P : Program} {w : World} {K : PySem.W.Frag} {mg : Str → Option Value} {base : Heap} (B : Gb K mg) (F : Fd K mg "shape_of" s_shape_of) : Cl P w K mg base 1 "shape_of" ["hand"] (SpP K R_shape_of) := by
  have BG := B
  obtain ⟨f, fd, F, hm⟩ := F.ex
  refine ⟨f, fd, fnG_of (k := 0) F sc_shape_of (spP_len fun ds d h => ?_) (fun cdv A outer s H hr hgd => ⟨_, (pss_cons (ps_set (i := 1) sc_shape_of.nd rfl (Or.inl rfl) pe_dnewK) (pss_cons (ps_for PassesOwn.never rfl (pi_tup (pv 0)) (pg_tup rfl (pgs_cons (pg_name (i := 2) sc_shape_of.nd rfl (Or.inl rfl)) (pgs_cons (pg_name (i := 3) sc_shape_of.nd rfl (Or.inl rfl)) pgs_nil))) (pss_one (ps_dput (hu_of hr) (pv 1) (pv 2) (pe_op op_add (pe_dget2 (hu_of hr) (pv 1) (pv 2) pe_int ⟨rfl, rfl, rfl, rfl⟩) pe_int) (by rfl)))) (pss_one (ps_ret (pe_revL (pe_callB (r := rSortX K (eP PyData.int PyData.int)) (cr_sortedX (Nat.lt_of_le_of_lt (Nat.add_le_add_left (by decide : 64 ≤ 64) _) hr.units)) (by rfl) B.sorted_ (by decide +kernel) (pa_cons (pe_lock (pe_lc (own := [("rank", 2), ("many", 4)]) (g := _) (tt := tYes) rfl sc_shape_of.nd (pi_items (pv 1)) (blkOk_by (N := N_shape_of) (sc := defScope s_shape_of) (by decide +kernel)) (fun _ _ _ _ _ => (pg_tupB (K := K) (n := 2) rfl rfl (pgs_cons (pg_name (i := 2) sc_shape_of.nd rfl (by first | exact Or.inl rfl | exact Or.inr rfl)) (pgs_cons (pg_name (i := 4) sc_shape_of.nd rfl (by first | exact Or.inl rfl | exact Or.inr rfl)) pgs_nil)))) (fun _ _ _ _ _ => pts_nil) (fun _ _ _ _ _ => (pe_tupF (pa_cons (pv 4) (pa_cons (pv 2) pa_nil)))))) pa_nil))))))), fun vs Q => fn_pure (N := N_shape_of) (fun ds d h => ?_) (fun B S ds d h D hR hN => ?_) vs H Q E0⟩), hm, F.kp, F.binds fun _ _ _ _ _ _ us hl => match us, hl with | [_], _ => rfl⟩
  · obtain ⟨hand, rfl, h0, rfl⟩ := h; rfl
  · obtain ⟨hand, rfl, h0, rfl⟩ := h; simp
  · obtain ⟨hand, rfl, h0, rfl⟩ := h
    show Ss _ _ [.da ((eT (eP PyData.int PyData.int)) hand), .no, .no, .no, .no] _ _
    refine s_seq (s_asgD (fun p_counts1 => s_le (ρ1 := [.da ((eT (eP PyData.int PyData.int)) hand), .mu true p_counts1 (.dK (eD PyData.int [])), .no, .no, .no]) (le_rfl rfl) ?_))
    refine s_seq (s_forX (hand) (fun x => Itm.hard ((eP PyData.int PyData.int) x)) (ei_tupX (ed_var rfl)) (fun i0 => [.da ((eT (eP PyData.int PyData.int)) hand), .mu true p_counts1 (.dK (eD PyData.int (cntD (hand.take i0)))), .no, .no, .no]) (le_same (le_mu (congrArg (fun z => MO.dK (eD PyData.int z)) (by simp [cntD])) (le_no (le_no (le_no le_nil))))) (fun T0 hT0 i0 x0 hx0 => ⟨_, [2, 3], (eg_tup (egs_cons (eg_name (by simp)) (egs_cons (eg_name (by simp)) egs_nil))), ?_⟩) ?_)
    · show Ss _ _ [.da ((eT (eP PyData.int PyData.int)) hand), .mu true p_counts1 (.dK (eD PyData.int (cntD (hand.take i0)))), .da (PyData.int (x0).1), .da (PyData.int (x0).2), .no] _ _
      refine (s_dput (ed_I0 (ed_dget2 (ed_var rfl) ed_int rfl rfl (eD_getD PyData.int (cntD (hand.take i0)) (x0).1 (0 : Int))) ed_int) (ed_var rfl) ⟨_, _, rfl⟩ rfl (by exact cntD_take_len h0) (s_le (ρ1 := [.da ((eT (eP PyData.int PyData.int)) hand), .mu true p_counts1 (.dK (eD PyData.int (putP (cntD (hand.take i0)) (x0).1 (((valP (cntD (hand.take i0)) (x0).1).getD (0 : Int)) + (1 : Int))))), .da (PyData.int (x0).1), .da (PyData.int (x0).2), .no]) (le_same (le_mu (congrArg MO.dK (eD_put _ _ _ _)) (le_same (le_same (le_same le_nil))))) ?_))
      exact s_end (le_same (le_mu (congrArg (fun z => MO.dK (eD PyData.int z)) (by exact (cntD_take hx0).symm)) (le_no (le_no (le_no le_nil)))))
    exact s_ret (ed_is (ed_L (el_revL (ed_L (el_sortX (enc := (eP PyData.int PyData.int)) (ed_L (el_lcDI (enc := (eP PyData.int PyData.int)) (fb := fun (x2 : Int × Int) => ((x2).2, (x2).1)) rfl (by exact Nat.le_trans (cntD_len _) (by simp; omega)) (by intro v; simp) (fun _ _ x2 hx2 => ⟨_, rfl, (eg_soft (egs_cons (eg_name (by simp)) (egs_cons (eg_name (by simp)) egs_nil))), (ed_tup (ds := [(PyData.int (x2).2), (PyData.int (x2).1)]) (ea_cons (ed_var rfl) (ea_cons (ed_var rfl) ea_nil)))⟩))) (by exact pi_al _) (by exact pi_so _) (by exact fun p _ => card_depth p))))) (by exact shp_ret hand : ((eL (eP PyData.int PyData.int)) (((sortX (eP PyData.int PyData.int) (((cntD (hand.take (hand).length))).map fun (x2 : Int × Int) => ((x2).2, (x2).1)))).reverse)) = ((eL (eP PyData.int PyData.int)) (manyL hand)))) hR

/-! ### sort_of -/
abbrev s_sort_of : Stmt := topS 18
abbrev N_sort_of : List Str := ["hand", "rows", "counts", "many", "rank", "in_row", "one_suit", "suit"]
theorem sc_sort_of : FnScope N_sort_of ["hand"] (defScope s_sort_of) := ⟨rfl, rfl, rfl, by decide +kernel, rfl, by decide +kernel, by decide +kernel⟩
def R_sort_of : List PyData → PyData → Prop := fun ds d => ∃ (hand : (List (Int × Int))), ds = [((eT (eP PyData.int PyData.int)) hand)] ∧ (hand.length = 5) ∧ d = (PyData.int (placeH hand))
set_option maxHeartbeats 4000000 in
theorem ok_sort_of {P : Program} {w : World} {K : PySem.W.Frag} {mg : Str → Option Value} {base : Heap} (B : Gb K mg) (F : Fd K mg "sort_of" s_sort_of) (C_shape_of : Cl P w K mg base 1 "shape_of" ["hand"] (SpP K R_shape_of)) : Cl P w K mg base 2 "sort_of" ["hand"] (SpP K R_sort_of) := by
  have BG := B
  obtain ⟨f, fd, F, hm⟩ := F.ex
  refine ⟨f, fd, fnG_of (k := 1) F sc_sort_of (spP_len fun ds d h => ?_) (fun cdv A outer s H hr hgd => ⟨_, (pss_cons (ps_set (i := 1) sc_sort_of.nd rfl (Or.inl rfl) (pe_cl C_shape_of (hr.mono (by decide)) hgd (by rfl) (pa_cons (pv 0) pa_nil))) (pss_cons (ps_setLc (i := 2) (own := [("many", 3), ("rank", 4)]) (g := _) (tt := tYes) rfl sc_sort_of.nd rfl rfl (sw_true rfl rfl rfl (by decide +kernel)) (pi_list (pv 1)) (blkOk_by (N := N_sort_of) (sc := defScope s_sort_of) (by decide +kernel)) (fun _ _ _ _ _ => (pg_tupB (K := K) (n := 2) rfl rfl (pgs_cons (pg_name (i := 3) sc_sort_of.nd rfl (by first | exact Or.inl rfl | exact Or.inr rfl)) (pgs_cons (pg_name (i := 4) sc_sort_of.nd rfl (by first | exact Or.inl rfl | exact Or.inr rfl)) pgs_nil)))) (fun _ _ _ _ _ => pts_nil) (fun _ _ _ _ _ => (pv 3))) (pss_cons (ps_if (pt_cmpR op_gt (pe_ix (r := rIxL K) ix_list (pv 2) pe_int (fun _ _ => rfl)) pe_int (nomark _)) (pss_cons (ps_if (pt_cmpR op_ge (pe_ix (r := rIxL K) ix_list (pv 2) pe_int (fun _ _ => rfl)) pe_int (nomark _)) (pss_one (ps_ret pe_int)) pss_nil) (pss_cons (ps_if (pt_cmpR (r := rEqD K) (op_eqD hr.units) (pe_ix (r := rIxL K) ix_list (pv 2) pe_int (fun _ _ => rfl)) pe_int (nomark _)) (pss_one (ps_ret (pe_ifExp (pt_cmpR (r := rEqD K) (op_eqD hr.units) (pe_ix (r := rIxL K) ix_list (pv 2) pe_int (fun _ _ => rfl)) pe_int (nomark _)) pe_int pe_int))) pss_nil) (pss_one (ps_ret (pe_ifExp (pt_cmpR (r := rEqD K) (op_eqD hr.units) (pe_ix (r := rIxL K) ix_list (pv 2) pe_int (fun _ _ => rfl)) pe_int (nomark _)) pe_int pe_int))))) pss_nil) (pss_cons (ps_set (i := 5) sc_sort_of.nd rfl (Or.inl rfl) (pe_cmpR (r := rEqD K) (op_eqD hr.units) (pe_op op_sub (pe_ix (r := rIxT K) ix_tup (pe_ix (r := rIxL K) ix_list (pv 1) pe_int (fun _ _ => rfl)) pe_int (fun _ _ => rfl)) (pe_ix (r := rIxT K) ix_tup (pe_ix (r := rIxL K) ix_list (pv 1) pe_int (fun _ _ => rfl)) pe_int (fun _ _ => rfl))) pe_int (nomark _))) (pss_cons (ps_set (i := 6) sc_sort_of.nd rfl (Or.inl rfl) (pe_cmpR (r := rEqD K) (op_eqD hr.units) (pe_callB (r := rLenDk) cr_lenDk (by rfl) B.len_ PySem.boot_len (pa_cons (pe_dc (own := [("rank", 4), ("suit", 7)]) (g := _) (tt := tYes) rfl sc_sort_of.nd (pi_tup (pv 0)) (blkOk_by (N := N_sort_of) (sc := defScope s_sort_of) (by decide +kernel)) (fun _ _ _ _ _ => (pg_tupB (K := K) (n := 2) rfl rfl (pgs_cons (pg_name (i := 4) sc_sort_of.nd rfl (by first | exact Or.inl rfl | exact Or.inr rfl)) (pgs_cons (pg_name (i := 7) sc_sort_of.nd rfl (by first | exact Or.inl rfl | exact Or.inr rfl)) pgs_nil)))) (fun _ _ _ _ _ => pts_nil) (fun _ _ _ _ _ => (pv 7)) (fun _ _ _ _ _ => pe_bl)) pa_nil)) pe_int (nomark _))) (pss_one (ps_ret (pe_ifExp (PW.pt (pw_and (pt_truth (pv 5) (fun _ => rfl)) (pw_and1 (pt_truth (pv 6) (fun _ => rfl))))) pe_int (pe_ifExp (pt_truth (pv 6) (fun _ => rfl)) pe_int (pe_ifExp (pt_truth (pv 5) (fun _ => rfl)) pe_int pe_int)))))))))), fun vs Q => fn_pure (N := N_sort_of) (fun ds d h => ?_) (fun B S ds d h D hR hN => ?_) vs H Q E0⟩), hm, F.kp, F.binds fun _ _ _ _ _ _ us hl => match us, hl with | [_], _ => rfl⟩
  · obtain ⟨hand, rfl, h0, rfl⟩ := h; rfl
  · obtain ⟨hand, rfl, h0, rfl⟩ := h; simp
  · obtain ⟨hand, rfl, h0, rfl⟩ := h
    show Ss _ _ [.da ((eT (eP PyData.int PyData.int)) hand), .no, .no, .no, .no, .no, .no, .no] _ _
    refine s_seq (s_asg (ed_call (ds := [((eT (eP PyData.int PyData.int)) hand)]) (ea_cons (ed_var rfl) ea_nil) ⟨hand, rfl, by omega, rfl⟩) (s_le (ρ1 := [.da ((eT (eP PyData.int PyData.int)) hand), .da ((eL (eP PyData.int PyData.int)) (manyL (hand))), .no, .no, .no, .no, .no, .no]) (le_rfl rfl) ?_))
    obtain ⟨counts_v, h_counts_v⟩ : ∃ z : (List Int), z = (((manyL (hand))).map fun (x1 : (Int × Int)) => (x1).1) := ⟨_, rfl⟩
    refine s_seq (s_asg (ed_L (el_lcAX (xs := (manyL (hand))) (ea := fun x => Itm.hard ((eP PyData.int PyData.int) x)) (enc := PyData.int) (fb := fun (x1 : (Int × Int)) => (x1).1) (ei_listX (ed_var rfl)) (by exact Nat.le_trans (many_len hand) (by omega)) (by simp) (fun _ _ x1 hx1 => ⟨_, rfl, (eg_tup (egs_cons (eg_name (by simp)) (egs_cons (eg_name (by simp)) egs_nil))), (ed_var rfl)⟩))) (s_le (ρ1 := [.da ((eT (eP PyData.int PyData.int)) hand), .da ((eL (eP PyData.int PyData.int)) (manyL (hand))), .da ((eL PyData.int) counts_v), .no, .no, .no, .no, .no]) (le_rfl (by subst h_counts_v; rfl)) ?_))
    have hp : counts_v ∈ parts := h_counts_v ▸ many_parts h0
    refine s_seq (s_if (b := (decide ((1 : Int) < (ixG counts_v (0 : Int))))) (et_test (ed_B0 (ed_ixLX (f := PyData.int) (l := counts_v) (ed_var rfl) ed_int (by exact px0 _ hp)) ed_int)) (fun hc0 => ?_) (fun hc0 => ?_))
    · refine s_seq (s_if (b := (decide ((4 : Int) ≤ (ixG counts_v (0 : Int))))) (et_test (ed_B0 (ed_ixLX (f := PyData.int) (l := counts_v) (ed_var rfl) ed_int (by exact px0 _ hp)) ed_int)) (fun hc1 => ?_) (fun hc1 => ?_))
      · exact s_ret (ed_is ed_int (by rw [placeH_C]; subst h_counts_v; exact congrArg PyData.int (pr7 _ hp _ _ hc0 hc1) : (PyData.int (7 : Int)) = (PyData.int (placeH hand)))) hR
      · refine s_next ?_
        refine s_seq (s_if (b := (decide ((ixG counts_v (0 : Int)) = (3 : Int)))) (et_test (ed_eqI (ed_ixLX (f := PyData.int) (l := counts_v) (ed_var rfl) ed_int (by exact px0 _ hp)) ed_int)) (fun hc2 => ?_) (fun hc2 => ?_))
        · exact s_ret (ed_is (ed_ite (e := PyData.int) (et_test (ed_eqI (ed_ixLX (f := PyData.int) (l := counts_v) (ed_var rfl) ed_int (by exact px1 _ hp hc0 hc1)) ed_int)) (fun hb2 => ed_int) (fun hb2 => ed_int)) (by rw [placeH_C]; subst h_counts_v; exact congrArg PyData.int (pr3 _ hp _ _ hc2) : (PyData.int (if (decide ((ixG counts_v (1 : Int)) = (2 : Int))) = true then (6 : Int) else (3 : Int))) = (PyData.int (placeH hand)))) hR
        · refine s_next ?_
          exact s_ret (ed_is (ed_ite (e := PyData.int) (et_test (ed_eqI (ed_ixLX (f := PyData.int) (l := counts_v) (ed_var rfl) ed_int (by exact px1 _ hp hc0 hc1)) ed_int)) (fun hb3 => ed_int) (fun hb3 => ed_int)) (by rw [placeH_C]; subst h_counts_v; exact congrArg PyData.int (pr2 _ hp _ _ hc0 hc1 hc2) : (PyData.int (if (decide ((ixG counts_v (1 : Int)) = (2 : Int))) = true then (2 : Int) else (1 : Int))) = (PyData.int (placeH hand)))) hR
    · refine s_next ?_
      refine s_seq (s_asg (ed_eqI (ed_I0 (ed_ixT (ed_ixLX (f := (eP PyData.int PyData.int)) (l := (manyL (hand))) (ed_var rfl) ed_int (by exact inb (by have := congrArg List.length (h_counts_v.symm.trans (px4 _ hp hc0)); rw [List.length_map] at this; rw [this]; decide))) ed_int rfl) (ed_ixT (ed_ixLX (f := (eP PyData.int PyData.int)) (l := (manyL (hand))) (ed_var rfl) ed_int (by exact inb (by have := congrArg List.length (h_counts_v.symm.trans (px4 _ hp hc0)); rw [List.length_map] at this; rw [this]; decide))) ed_int rfl)) ed_int) (s_le (ρ1 := [.da ((eT (eP PyData.int PyData.int)) hand), .da ((eL (eP PyData.int PyData.int)) (manyL (hand))), .da ((eL PyData.int) counts_v), .no, .no, .da (PyData.bool (decide ((((ixG (manyL (hand)) (0 : Int))).2 - ((ixG (manyL (hand)) (4 : Int))).2) = (4 : Int)))), .no, .no]) (le_rfl rfl) ?_))
      refine s_seq (s_asg (ed_eqI (ed_is (ed_lenDc (el_dcA (xs := hand) (ea := fun x => Itm.hard ((eP PyData.int PyData.int) x)) (fk := fun (x4 : (Int × Int)) => (x4).2) (fv := fun (x4 : (Int × Int)) => true) (ei_tupX (ed_var rfl)) (by omega) (by simp) (fun _ _ x4 hx4 => ⟨_, rfl, (eg_tup (egs_cons (eg_name (by simp)) (egs_cons (eg_name (by simp)) egs_nil))), (ed_var rfl), ed_bl⟩))) (congrArg PyData.int (dc_len _ _ _))) ed_int) (s_le (ρ1 := [.da ((eT (eP PyData.int PyData.int)) hand), .da ((eL (eP PyData.int PyData.int)) (manyL (hand))), .da ((eL PyData.int) counts_v), .no, .no, .da (PyData.bool (decide ((((ixG (manyL (hand)) (0 : Int))).2 - ((ixG (manyL (hand)) (4 : Int))).2) = (4 : Int)))), .da (PyData.bool (decide (((dls ((hand).map fun (x4 : (Int × Int)) => (x4).2) : Nat) : Int) = (1 : Int)))), .no]) (le_rfl rfl) ?_))
      exact s_ret (ed_is (ed_ite (e := PyData.int) (et_and (et_truB (ed_var rfl)) (fun hb5 => (et_truB (ed_var rfl)))) (fun hb6 => ed_int) (fun hb6 => (ed_ite (e := PyData.int) (et_truB (ed_var rfl)) (fun hb7 => ed_int) (fun hb7 => (ed_ite (e := PyData.int) (et_truB (ed_var rfl)) (fun hb8 => ed_int) (fun hb8 => ed_int)))))) (by exact congrArg PyData.int (pr0 (h_counts_v.symm.trans (px4 _ hp hc0)) _ _ rfl rfl) : (PyData.int (if ((decide ((((ixG (manyL (hand)) (0 : Int))).2 - ((ixG (manyL (hand)) (4 : Int))).2) = (4 : Int))) && (decide (((dls ((hand).map fun (x4 : (Int × Int)) => (x4).2) : Nat) : Int) = (1 : Int)))) = true then (8 : Int) else (if (decide (((dls ((hand).map fun (x4 : (Int × Int)) => (x4).2) : Nat) : Int) = (1 : Int))) = true then (5 : Int) else (if (decide ((((ixG (manyL (hand)) (0 : Int))).2 - ((ixG (manyL (hand)) (4 : Int))).2) = (4 : Int))) = true then (4 : Int) else (0 : Int))))) = (PyData.int (placeH hand)))) hR

/-! ### sort_name -/
abbrev s_sort_name : Stmt := topS 19
abbrev N_sort_name : List Str := ["ranks", "suits", "hand"]
theorem sc_sort_name : FnScope N_sort_name ["ranks", "suits", "hand"] (defScope s_sort_name) := ⟨rfl, rfl, rfl, by decide +kernel, rfl, by decide +kernel, by decide +kernel⟩
def R_sort_name : List PyData → PyData → Prop := fun ds d => ∃ (ranks : Int) (suits : Int) (hand : (List (Int × Int))), ds = [(PyData.int ranks), (PyData.int suits), ((eT (eP PyData.int PyData.int)) hand)] ∧ (PackOk ranks suits) ∧ (CardsOk ranks suits hand) ∧ (hand.length = 5) ∧ d = (PyData.str (ixG sortNames (placeH hand)))
set_option maxHeartbeats 4000000 in
theorem ok_sort_name {P : Program} {w : World} {K : PySem.W.Frag} {mg : Str → Option Value} {base : Heap} (B : Gb K mg) (F : Fd K mg "sort_name" s_sort_name) (C_check_hand : Cl P w K mg base 4 "check_hand" ["ranks", "suits", "hand"] (SpP K R_check_hand)) (C_sort_of : Cl P w K mg base 2 "sort_of" ["hand"] (SpP K R_sort_of)) : Cl P w K mg base 5 "sort_name" ["ranks", "suits", "hand"] (SpP K R_sort_name) := by
  have BG := B
  obtain ⟨f, fd, F, hm⟩ := F.ex
  refine ⟨f, fd, fnG_of (k := 4) F sc_sort_name (spP_len fun ds d h => ?_) (fun cdv A outer s H hr hgd => ⟨_, (pss_cons (ps_expr (pe_cl C_check_hand (hr.mono (by decide)) hgd (by rfl) (pa_cons (pv 0) (pa_cons (pv 1) (pa_cons (pv 2) pa_nil))))) (pss_one (ps_ret (pe_ix (r := rIxT K) ix_tup (pe_glob (v := .ref B.c_SORTS.choose) rfl B.c_SORTS.choose_spec.1 rfl) (pe_cl C_sort_of (hr.mono (by decide)) hgd (by rfl) (pa_cons (pv 2) pa_nil)) (fun _ _ => rfl))))), fun vs Q => fn_pure (N := N_sort_name) (fun ds d h => ?_) (fun B S ds d h D hR hN => ?_) vs H Q E0⟩), hm, F.kp, F.binds fun _ _ _ _ _ _ us hl => match us, hl with | [_, _, _], _ => rfl⟩
  · obtain ⟨ranks, suits, hand, rfl, h0, h1, h2, rfl⟩ := h; rfl
  · obtain ⟨ranks, suits, hand, rfl, h0, h1, h2, rfl⟩ := h; simp
  · obtain ⟨ranks, suits, hand, rfl, h0, h1, h2, rfl⟩ := h
    show Ss _ _ [.da (PyData.int ranks), .da (PyData.int suits), .da ((eT (eP PyData.int PyData.int)) hand)] _ _
    refine s_seq (s_drop (ed_call (ds := [(PyData.int ranks), (PyData.int suits), ((eT (eP PyData.int PyData.int)) hand)]) (ea_cons (ed_var rfl) (ea_cons (ed_var rfl) (ea_cons (ed_var rfl) ea_nil))) ⟨ranks, suits, hand, rfl, by assumption, by assumption, by assumption, rfl⟩) ?_)
    exact s_ret (ed_is (ed_ixTX (f := PyData.str) (l := [Str.ofString "high", Str.ofString "pair", Str.ofString "pairs", Str.ofString "three", Str.ofString "row", Str.ofString "suit", Str.ofString "house", Str.ofString "four", Str.ofString "both"]) (ed_is (d1 := (eT PyData.str) [Str.ofString "high", Str.ofString "pair", Str.ofString "pairs", Str.ofString "three", Str.ofString "row", Str.ofString "suit", Str.ofString "house", Str.ofString "four", Str.ofString "both"]) (ed_ref BG.c_SORTS.choose_spec.2) rfl) (ed_call (ds := [((eT (eP PyData.int PyData.int)) hand)]) (ea_cons (ed_var rfl) ea_nil) ⟨hand, rfl, by assumption, rfl⟩) (by exact place_ix _)) (by rfl : (PyData.str (ixG [Str.ofString "high", Str.ofString "pair", Str.ofString "pairs", Str.ofString "three", Str.ofString "row", Str.ofString "suit", Str.ofString "house", Str.ofString "four", Str.ofString "both"] (placeH (hand)))) = (PyData.str (ixG sortNames (placeH hand))))) hR

/-! ### worth -/
abbrev s_worth : Stmt := topS 20
abbrev N_worth : List Str := ["hand", "many", "rank"]
theorem sc_worth : FnScope N_worth ["hand"] (defScope s_worth) := ⟨rfl, rfl, rfl, by decide +kernel, rfl, by decide +kernel, by decide +kernel⟩
def R_worth : List PyData → PyData → Prop := fun ds d => ∃ (hand : (List (Int × Int))), ds = [((eT (eP PyData.int PyData.int)) hand)] ∧ (hand.length = 5) ∧ d = ((eP PyData.int (eT PyData.int)) (valF hand))
set_option maxHeartbeats 4000000 in
theorem ok_worth {P : Program} {w : World} {K : PySem.W.Frag} {mg : Str → Option Value} {base : Heap} (B : Gb K mg) (F : Fd K mg "worth" s_worth) (C_shape_of : Cl P w K mg base 1 "shape_of" ["hand"] (SpP K R_shape_of)) (C_sort_of : Cl P w K mg base 2 "sort_of" ["hand"] (SpP K R_sort_of)) : Cl P w K mg base 3 "worth" ["hand"] (SpP K R_worth) := by
  have BG := B
  obtain ⟨f, fd, F, hm⟩ := F.ex
  refine ⟨f, fd, fnG_of (k := 2) F sc_worth (spP_len fun ds d h => ?_) (fun cdv A outer s H hr hgd => ⟨_, (pss_one (ps_ret (pe_tupF (pa_cons (pe_cl C_sort_of (hr.mono (by decide)) hgd (by rfl) (pa_cons (pv 0) pa_nil)) (pa_cons (pe_callTy (r := rTupOf K) call_tupleF (by rfl) B.tuple_ PyProof.Rows.boot_tuple (pa_cons (pe_lc (own := [("many", 1), ("rank", 2)]) (g := _) (tt := tYes) rfl sc_worth.nd (pi_list (pe_cl C_shape_of (hr.mono (by decide)) hgd (by rfl) (pa_cons (pv 0) pa_nil))) (blkOk_by (N := N_worth) (sc := defScope s_worth) (by decide +kernel)) (fun _ _ _ _ _ => (pg_tupB (K := K) (n := 2) rfl rfl (pgs_cons (pg_name (i := 1) sc_worth.nd rfl (by first | exact Or.inl rfl | exact Or.inr rfl)) (pgs_cons (pg_name (i := 2) sc_worth.nd rfl (by first | exact Or.inl rfl | exact Or.inr rfl)) pgs_nil)))) (fun _ _ _ _ _ => pts_nil) (fun _ _ _ _ _ => (pv 2))) pa_nil)) pa_nil))))), fun vs Q => fn_pure (N := N_worth) (fun ds d h => ?_) (fun B S ds d h D hR hN => ?_) vs H Q E0⟩), hm, F.kp, F.binds fun _ _ _ _ _ _ us hl => match us, hl with | [_], _ => rfl⟩
  · obtain ⟨hand, rfl, h0, rfl⟩ := h; rfl
  · obtain ⟨hand, rfl, h0, rfl⟩ := h; simp
  · obtain ⟨hand, rfl, h0, rfl⟩ := h
    show Ss _ _ [.da ((eT (eP PyData.int PyData.int)) hand), .no, .no] _ _
    exact s_ret (ed_is (ed_tup (ds := [(PyData.int (placeH (hand))), ((eT PyData.int) (((manyL (hand))).map fun (x1 : (Int × Int)) => (x1).2))]) (ea_cons (ed_call (ds := [((eT (eP PyData.int PyData.int)) hand)]) (ea_cons (ed_var rfl) ea_nil) ⟨hand, rfl, by assumption, rfl⟩) (ea_cons (ed_tupleL (ed_L (el_lcAX (xs := (manyL (hand))) (ea := fun x => Itm.hard ((eP PyData.int PyData.int) x)) (enc := PyData.int) (fb := fun (x1 : (Int × Int)) => (x1).2) (ei_listX (ed_call (ds := [((eT (eP PyData.int PyData.int)) hand)]) (ea_cons (ed_var rfl) ea_nil) ⟨hand, rfl, by omega, rfl⟩)) (by exact Nat.le_trans (many_len hand) (by omega)) (by simp) (fun _ _ x1 hx1 => ⟨_, rfl, (eg_tup (egs_cons (eg_name (by simp)) (egs_cons (eg_name (by simp)) egs_nil))), (ed_var rfl)⟩)))) ea_nil))) (by rfl : ((eP PyData.int (eT PyData.int)) ((placeH (hand)), (((manyL (hand))).map fun (x1 : (Int × Int)) => (x1).2))) = ((eP PyData.int (eT PyData.int)) (valF hand)))) hR

/-! ### compare_hands -/
abbrev s_compare_hands : Stmt := topS 21
abbrev N_compare_hands : List Str := ["ranks", "suits", "first", "second", "reason", "hand", "one", "other"]
theorem sc_compare_hands : FnScope N_compare_hands ["ranks", "suits", "first", "second"] (defScope s_compare_hands) := ⟨rfl, rfl, rfl, by decide +kernel, rfl, by decide +kernel, by decide +kernel⟩
def R_compare_hands : List PyData → PyData → Prop := fun ds d => ∃ (ranks : Int) (suits : Int) (first : (List (Int × Int))) (second : (List (Int × Int))), ds = [(PyData.int ranks), (PyData.int suits), ((eT (eP PyData.int PyData.int)) first), ((eT (eP PyData.int PyData.int)) second)] ∧ (PackOk ranks suits) ∧ (CardsOk ranks suits first) ∧ (first.length = 5) ∧ (CardsOk ranks suits second) ∧ (second.length = 5) ∧ d = (PyData.int (cmpV (valF first) (valF second)))
set_option maxHeartbeats 4000000 in
theorem ok_compare_hands {P : Program} {w : World} {K : PySem.W.Frag} {mg : Str → Option Value} {base : Heap} (B : Gb K mg) (F : Fd K mg "compare_hands" s_compare_hands) (C_are_cards : Cl P w K mg base 3 "are_cards" ["ranks", "suits", "value", "many"] (SpP K R_are_cards)) (C_check_pack : Cl P w K mg base 2 "check_pack" ["ranks", "suits"] (SpP K R_check_pack)) (C_worth : Cl P w K mg base 3 "worth" ["hand"] (SpP K R_worth)) : Cl P w K mg base 4 "compare_hands" ["ranks", "suits", "first", "second"] (SpP K R_compare_hands) := by
  have BG := B
  obtain ⟨f, fd, F, hm⟩ := F.ex
  refine ⟨f, fd, fnG_of (k := 3) F sc_compare_hands (spP_len fun ds d h => ?_) (fun cdv A outer s H hr hgd => ⟨_, (pss_cons (ps_expr (pe_cl C_check_pack (hr.mono (by decide)) hgd (by rfl) (pa_cons (pv 0) (pa_cons (pv 1) pa_nil)))) (pss_cons (ps_for PassesOwn.never rfl (pi_tup (pe_tupF (pa_cons (pe_tupF (pa_cons pe_str (pa_cons (pv 2) pa_nil))) (pa_cons (pe_tupF (pa_cons pe_str (pa_cons (pv 3) pa_nil))) pa_nil)))) (pg_tup rfl (pgs_cons (pg_name (i := 4) sc_compare_hands.nd rfl (Or.inl rfl)) (pgs_cons (pg_name (i := 5) sc_compare_hands.nd rfl (Or.inl rfl)) pgs_nil))) (pss_one (ps_if (pt_not (pt_truth (pe_cl C_are_cards (hr.mono (by decide)) hgd (by rfl) (pa_cons (pv 0) (pa_cons (pv 1) (pa_cons (pv 5) (pa_cons pe_int pa_nil))))) (fun _ => rfl))) pss_never pss_nil))) (pss_cons (ps_par (i := 6) (j := 7) rfl sc_compare_hands.nd rfl rfl (by decide) rfl rfl (pa_cons (pe_cl C_worth (hr.mono (by decide)) hgd (by rfl) (pa_cons (pv 2) pa_nil)) (pa_cons (pe_cl C_worth (hr.mono (by decide)) hgd (by rfl) (pa_cons (pv 3) pa_nil)) pa_nil)) rfl rfl) (pss_one (ps_ret (pe_op op_subB (pe_cmpR (r := rCmpD K (fun d e => PySem.W.dataLt e d)) (op_gtD hr.units) (pv 6) (pv 7) (nomark _)) (pe_cmpR (r := rCmpD K PySem.W.dataLt) (op_ltD hr.units) (pv 6) (pv 7) (nomark _)))))))), fun vs Q => fn_pure (N := N_compare_hands) (fun ds d h => ?_) (fun B S ds d h D hR hN => ?_) vs H Q E0⟩), hm, F.kp, F.binds fun _ _ _ _ _ _ us hl => match us, hl with | [_, _, _, _], _ => rfl⟩
  · obtain ⟨ranks, suits, first, second, rfl, h0, h1, h2, h3, h4, rfl⟩ := h; rfl
  · obtain ⟨ranks, suits, first, second, rfl, h0, h1, h2, h3, h4, rfl⟩ := h; simp
  · obtain ⟨ranks, suits, first, second, rfl, h0, h1, h2, h3, h4, rfl⟩ := h
    show Ss _ _ [.da (PyData.int ranks), .da (PyData.int suits), .da ((eT (eP PyData.int PyData.int)) first), .da ((eT (eP PyData.int PyData.int)) second), .no, .no, .no, .no] _ _
    refine s_seq (s_drop (ed_call (ds := [(PyData.int ranks), (PyData.int suits)]) (ea_cons (ed_var rfl) (ea_cons (ed_var rfl) ea_nil)) ⟨ranks, suits, rfl, by assumption, rfl⟩) ?_)
    refine s_seq (s_forX ([((((Str.ofString "first"), first), ((Str.ofString "second"), second))).1, ((((Str.ofString "first"), first), ((Str.ofString "second"), second))).2]) (fun x => Itm.hard ((eP PyData.str (eT (eP PyData.int PyData.int))) x)) (ei_tupX (ed_is (ed_tup (ds := [((eP PyData.str (eT (eP PyData.int PyData.int))) ((Str.ofString "first"), first)), ((eP PyData.str (eT (eP PyData.int PyData.int))) ((Str.ofString "second"), second))]) (ea_cons (ed_tup (ds := [(PyData.str (Str.ofString "first")), ((eT (eP PyData.int PyData.int)) first)]) (ea_cons ed_str (ea_cons (ed_var rfl) ea_nil))) (ea_cons (ed_tup (ds := [(PyData.str (Str.ofString "second")), ((eT (eP PyData.int PyData.int)) second)]) (ea_cons ed_str (ea_cons (ed_var rfl) ea_nil))) ea_nil))) (rfl : _ = ((eT (eP PyData.str (eT (eP PyData.int PyData.int)))) [((((Str.ofString "first"), first), ((Str.ofString "second"), second))).1, ((((Str.ofString "first"), first), ((Str.ofString "second"), second))).2])))) (fun i0 => [.da (PyData.int ranks), .da (PyData.int suits), .da ((eT (eP PyData.int PyData.int)) first), .da ((eT (eP PyData.int PyData.int)) second), .no, .no, .no, .no]) (le_same (le_same (le_same (le_same (le_no (le_no (le_no (le_no le_nil)))))))) (fun T0 hT0 i0 x0 hx0 => ⟨_, [4, 5], (eg_tup (egs_cons (eg_name (by simp)) (egs_cons (eg_name (by simp)) egs_nil))), ?_⟩) ?_)
    · show Ss _ _ [.da (PyData.int ranks), .da (PyData.int suits), .da ((eT (eP PyData.int PyData.int)) first), .da ((eT (eP PyData.int PyData.int)) second), .da (PyData.str (x0).1), .da ((eT (eP PyData.int PyData.int)) (x0).2), .no, .no] _ _
      have hx : CardsOk ranks suits x0.2 ∧ x0.2.length = 5 := or_sub (P := fun p : Str × List Card => CardsOk ranks suits p.2 ∧ p.2.length = 5) (mem2 (List.mem_of_getElem? hx0)) ⟨h1, h2⟩ ⟨h3, h4⟩
      refine (s_skip (et_not (et_truB (ed_call (ds := [(PyData.int ranks), (PyData.int suits), ((eT (eP PyData.int PyData.int)) (x0).2), (PyData.int (5 : Int))]) (ea_cons (ed_var rfl) (ea_cons (ed_var rfl) (ea_cons (ed_var rfl) (ea_cons ed_int ea_nil)))) ⟨ranks, suits, (x0).2, (5 : Int), rfl, by omega, by exact hx.1, rfl⟩))) (by simp [hx.2] : (!(decide ((((x0).2).length : Int) = ((5 : Int))))) = false) ?_)
      exact s_end (le_same (le_same (le_same (le_same (le_no (le_no (le_no (le_no le_nil))))))))
    refine s_seq (s_par (ea_cons (ed_call (ds := [((eT (eP PyData.int PyData.int)) first)]) (ea_cons (ed_var rfl) ea_nil) ⟨first, rfl, by omega, rfl⟩) (ea_cons (ed_call (ds := [((eT (eP PyData.int PyData.int)) second)]) (ea_cons (ed_var rfl) ea_nil) ⟨second, rfl, by omega, rfl⟩) ea_nil)) (s_le (ρ1 := [.da (PyData.int ranks), .da (PyData.int suits), .da ((eT (eP PyData.int PyData.int)) first), .da ((eT (eP PyData.int PyData.int)) second), .no, .no, .da ((eP PyData.int (eT PyData.int)) (valF (first))), .da ((eP PyData.int (eT PyData.int)) (valF (second)))]) (le_rfl rfl) ?_))
    exact s_ret (ed_is (ed_subB (ed_cmpD (f := fun d e => PySem.W.dataLt e d) (ed_var rfl) (ed_var rfl) (by exact wv_al _ _) (by intro h; cases h) (by exact wv_depth _)) (ed_cmpD (f := PySem.W.dataLt) (ed_var rfl) (ed_var rfl) (by exact wv_al _ _) (by intro h; cases h) (by exact wv_depth _))) (by rw [wv_lt, wv_lt]; rfl : (PyData.int (b2i (PySem.W.dataLt ((eP PyData.int (eT PyData.int)) (valF (second))) ((eP PyData.int (eT PyData.int)) (valF (first)))) - b2i (PySem.W.dataLt ((eP PyData.int (eT PyData.int)) (valF (first))) ((eP PyData.int (eT PyData.int)) (valF (second)))))) = (PyData.int (cmpV (valF first) (valF second))))) hR

/-! ### chance_of_sort -/
abbrev s_chance_of_sort : Stmt := topS 23
abbrev N_chance_of_sort : List Str := ["ranks", "suits", "sort", "told"]
theorem sc_chance_of_sort : FnScope N_chance_of_sort ["ranks", "suits", "sort"] (defScope s_chance_of_sort) := ⟨rfl, rfl, rfl, by decide +kernel, rfl, by decide +kernel, by decide +kernel⟩
def R_chance_of_sort : List PyData → PyData → Prop := fun ds d => ∃ (ranks : Int) (suits : Int) (sort : Str), ds = [(PyData.int ranks), (PyData.int suits), (PyData.str sort)] ∧ (PackOk ranks suits) ∧ (sort ∈ sortNames) ∧ d = (eQ (Rat.divInt (ixG (l9 (sortsF ranks suits)) ((sortNames.idxOf sort : Nat) : Int)) (chI (ranks * suits) 5)))
set_option maxHeartbeats 4000000 in
theorem ok_chance_of_sort {P : Program} {w : World} {K : PySem.W.Frag} {mg : Str → Option Value} {base : Heap} (B : Gb K mg) (F : Fd K mg "chance_of_sort" s_chance_of_sort) (C_choose : Cl P w K mg base 1 "choose" ["many", "few"] (SpP K R_choose)) (C_count_sorts : Cl P w K mg base 3 "count_sorts" ["ranks", "suits"] (SpP K R_count_sorts)) (C_quotient : Cl P w K mg base 2 "quotient" ["up", "down"] (SpP K R_quotient)) : Cl P w K mg base 4 "chance_of_sort" ["ranks", "suits", "sort"] (SpP K R_chance_of_sort) := by
  have BG := B
  obtain ⟨f, fd, F, hm⟩ := F.ex
  refine ⟨f, fd, fnG_of (k := 3) F sc_chance_of_sort (spP_len fun ds d h => ?_) (fun cdv A outer s H hr hgd => ⟨_, (pss_cons (ps_set (i := 3) sc_chance_of_sort.nd rfl (Or.inl rfl) (pe_cl C_count_sorts (hr.mono (by decide)) hgd (by rfl) (pa_cons (pv 0) (pa_cons (pv 1) pa_nil)))) (pss_cons (ps_if (PW.pt (pw_or (pt_not (pt_truth (pe_callB (r := rIsi K) call_isi (by rfl) B.isinstance_ boot_isinstance (pa_cons (pv 2) (pa_cons (pe_bltn (v := .ty "str") (u := .type "str") (by rfl) B.str_ (by decide +kernel) rfl) pa_nil))) (fun _ => rfl))) (pw_or1 (pt_cmpR (r := rIn K true) op_notIn_seq (pv 2) (pe_glob (v := .ref B.c_SORTS.choose) rfl B.c_SORTS.choose_spec.1 rfl) (by rfl))))) pss_never pss_nil) (pss_one (ps_ret (pe_cl C_quotient (hr.mono (by decide)) hgd (by rfl) (pa_cons (pe_ix (r := rIxT K) ix_tup (pv 3) (pe_bmTK (K := K) (r := rIdxT K) PySem.F.slot_tuple_index PySem.F.type_tuple_index mt_tindex (pe_glob (v := .ref B.c_SORTS.choose) rfl B.c_SORTS.choose_spec.1 rfl) (pa_cons (pv 2) pa_nil)) (fun _ _ => rfl)) (pa_cons (pe_cl C_choose (hr.mono (by decide)) hgd (by rfl) (pa_cons (pe_op op_mulG (pv 0) (pv 1)) (pa_cons pe_int pa_nil))) pa_nil))))))), fun vs Q => fn_pure (N := N_chance_of_sort) (fun ds d h => ?_) (fun B S ds d h D hR hN => ?_) vs H Q E0⟩), hm, F.kp, F.binds fun _ _ _ _ _ _ us hl => match us, hl with | [_, _, _], _ => rfl⟩
  · obtain ⟨ranks, suits, sort, rfl, h0, h1, rfl⟩ := h; rfl
  · obtain ⟨ranks, suits, sort, rfl, h0, h1, rfl⟩ := h; simp
  · obtain ⟨ranks, suits, sort, rfl, h0, h1, rfl⟩ := h
    have hsz := pack_sz h0
    show Ss _ _ [.da (PyData.int ranks), .da (PyData.int suits), .da (PyData.str sort), .no] _ _
    refine s_seq (s_asg (ed_call (ds := [(PyData.int ranks), (PyData.int suits)]) (ea_cons (ed_var rfl) (ea_cons (ed_var rfl) ea_nil)) ⟨ranks, suits, rfl, by assumption, rfl⟩) (s_le (ρ1 := [.da (PyData.int ranks), .da (PyData.int suits), .da (PyData.str sort), .da (eI9 (sortsF (ranks) (suits)))]) (le_rfl rfl) ?_))
    refine s_seq (s_skip (et_or (et_not (et_truB (ed_isi (ed_var rfl) (show kitB "str" "str" = some true by decide +kernel)))) (fun hb1 => (et_test (ed_ninTS (ed_var rfl) (ed_is (d1 := (eT PyData.str) [Str.ofString "high", Str.ofString "pair", Str.ofString "pairs", Str.ofString "three", Str.ofString "row", Str.ofString "suit", Str.ofString "house", Str.ofString "four", Str.ofString "both"]) (ed_ref BG.c_SORTS.choose_spec.2) rfl))))) (by simp [h1] : ((!true) || (!decide (sort ∈ [Str.ofString "high", Str.ofString "pair", Str.ofString "pairs", Str.ofString "three", Str.ofString "row", Str.ofString "suit", Str.ofString "house", Str.ofString "four", Str.ofString "both"]))) = false) ?_)
    exact s_ret (ed_is (ed_call (ds := [(PyData.int (ixG [((sortsF (ranks) (suits))).1, ((sortsF (ranks) (suits))).2.1, ((sortsF (ranks) (suits))).2.2.1, ((sortsF (ranks) (suits))).2.2.2.1, ((sortsF (ranks) (suits))).2.2.2.2.1, ((sortsF (ranks) (suits))).2.2.2.2.2.1, ((sortsF (ranks) (suits))).2.2.2.2.2.2.1, ((sortsF (ranks) (suits))).2.2.2.2.2.2.2.1, ((sortsF (ranks) (suits))).2.2.2.2.2.2.2.2] ((([Str.ofString "high", Str.ofString "pair", Str.ofString "pairs", Str.ofString "three", Str.ofString "row", Str.ofString "suit", Str.ofString "house", Str.ofString "four", Str.ofString "both"]).idxOf sort : Nat) : Int))), (PyData.int (chI ((ranks * suits)) ((5 : Int))))]) (ea_cons (ed_ixTX (f := PyData.int) (l := [((sortsF (ranks) (suits))).1, ((sortsF (ranks) (suits))).2.1, ((sortsF (ranks) (suits))).2.2.1, ((sortsF (ranks) (suits))).2.2.2.1, ((sortsF (ranks) (suits))).2.2.2.2.1, ((sortsF (ranks) (suits))).2.2.2.2.2.1, ((sortsF (ranks) (suits))).2.2.2.2.2.2.1, ((sortsF (ranks) (suits))).2.2.2.2.2.2.2.1, ((sortsF (ranks) (suits))).2.2.2.2.2.2.2.2]) (ed_is (ed_var rfl) (rfl : _ = ((eT PyData.int) [((sortsF (ranks) (suits))).1, ((sortsF (ranks) (suits))).2.1, ((sortsF (ranks) (suits))).2.2.1, ((sortsF (ranks) (suits))).2.2.2.1, ((sortsF (ranks) (suits))).2.2.2.2.1, ((sortsF (ranks) (suits))).2.2.2.2.2.1, ((sortsF (ranks) (suits))).2.2.2.2.2.2.1, ((sortsF (ranks) (suits))).2.2.2.2.2.2.2.1, ((sortsF (ranks) (suits))).2.2.2.2.2.2.2.2]))) (ed_tidx (ed_is (d1 := (eT PyData.str) [Str.ofString "high", Str.ofString "pair", Str.ofString "pairs", Str.ofString "three", Str.ofString "row", Str.ofString "suit", Str.ofString "house", Str.ofString "four", Str.ofString "both"]) (ed_ref BG.c_SORTS.choose_spec.2) rfl) (ed_var rfl) (by exact h1)) (by exact name_ix h1)) (ea_cons (ed_call (ds := [(PyData.int (ranks * suits)), (PyData.int (5 : Int))]) (ea_cons (ed_I (ed_var rfl) (ed_var rfl) (by have := h0.1; have := h0.2; first | exact mul_r (by omega) (by omega) | exact mul_l (by omega) (by omega))) (ea_cons ed_int ea_nil)) ⟨(ranks * suits), (5 : Int), rfl, by omega, rfl⟩) ea_nil)) ⟨(ixG [((sortsF (ranks) (suits))).1, ((sortsF (ranks) (suits))).2.1, ((sortsF (ranks) (suits))).2.2.1, ((sortsF (ranks) (suits))).2.2.2.1, ((sortsF (ranks) (suits))).2.2.2.2.1, ((sortsF (ranks) (suits))).2.2.2.2.2.1, ((sortsF (ranks) (suits))).2.2.2.2.2.2.1, ((sortsF (ranks) (suits))).2.2.2.2.2.2.2.1, ((sortsF (ranks) (suits))).2.2.2.2.2.2.2.2] ((([Str.ofString "high", Str.ofString "pair", Str.ofString "pairs", Str.ofString "three", Str.ofString "row", Str.ofString "suit", Str.ofString "house", Str.ofString "four", Str.ofString "both"]).idxOf sort : Nat) : Int)), (chI ((ranks * suits)) ((5 : Int))), rfl, by exact whole_nz h0, by exact whole_lt h0, rfl⟩) (by rfl : (eQ (Rat.divInt ((ixG [((sortsF (ranks) (suits))).1, ((sortsF (ranks) (suits))).2.1, ((sortsF (ranks) (suits))).2.2.1, ((sortsF (ranks) (suits))).2.2.2.1, ((sortsF (ranks) (suits))).2.2.2.2.1, ((sortsF (ranks) (suits))).2.2.2.2.2.1, ((sortsF (ranks) (suits))).2.2.2.2.2.2.1, ((sortsF (ranks) (suits))).2.2.2.2.2.2.2.1, ((sortsF (ranks) (suits))).2.2.2.2.2.2.2.2] ((([Str.ofString "high", Str.ofString "pair", Str.ofString "pairs", Str.ofString "three", Str.ofString "row", Str.ofString "suit", Str.ofString "house", Str.ofString "four", Str.ofString "both"]).idxOf sort : Nat) : Int))) ((chI ((ranks * suits)) ((5 : Int)))))) = (eQ (Rat.divInt (ixG (l9 (sortsF ranks suits)) ((sortNames.idxOf sort : Nat) : Int)) (chI (ranks * suits) 5))))) hR

/-! ### all_cards -/
abbrev s_all_cards : Stmt := topS 24
abbrev N_all_cards : List Str := ["ranks", "suits", "rank", "suit"]
theorem sc_all_cards : FnScope N_all_cards ["ranks", "suits"] (defScope s_all_cards) := ⟨rfl, rfl, rfl, by decide +kernel, rfl, by decide +kernel, by decide +kernel⟩
def R_all_cards : List PyData → PyData → Prop := fun ds d => ∃ (ranks : Int) (suits : Int), ds = [(PyData.int ranks), (PyData.int suits)] ∧ (PackOk ranks suits) ∧ d = ((eL (eP PyData.int PyData.int)) (packL ranks suits))
set_option maxHeartbeats 4000000 in
theorem ok_all_cards {P : Program} {w : World} {K : PySem.W.Frag} {mg : Str → Option Value} {base : Heap} (B : Gb K mg) (F : Fd K mg "all_cards" s_all_cards) : Cl P w K mg base 1 "all_cards" ["ranks", "suits"] (SpP K R_all_cards) := by
  have BG := B
  obtain ⟨f, fd, F, hm⟩ := F.ex
  refine ⟨f, fd, fnG_of (k := 0) F sc_all_cards (spP_len fun ds d h => ?_) (fun cdv A outer s H hr hgd => ⟨_, (pss_one (ps_ret (pe_lc2 (own := [("rank", 2), ("suit", 3)]) (vs1 := [3]) (g := _) (tt := tYes) (g1 := _) (tt1 := tYes) rfl sc_all_cards.nd (pi_range1 (by rfl) B.range_ (pa_cons (pv 0) pa_nil)) (blkOk_by (N := N_all_cards) (sc := defScope s_all_cards) (by decide +kernel)) (by decide) (fun _ _ _ _ _ => (pg_name (i := 2) sc_all_cards.nd rfl (by first | exact Or.inl rfl | exact Or.inr rfl))) (fun _ _ _ _ _ => pts_nil) (fun _ _ _ _ _ => (pi_range1 (by rfl) B.range_ (pa_cons (pv 1) pa_nil))) (fun _ _ _ _ _ => (pg_name (i := 3) sc_all_cards.nd rfl (by first | exact Or.inl rfl | exact Or.inr rfl))) (fun _ _ _ _ _ => pts_nil) (fun _ _ _ _ _ => (pe_tupF (pa_cons (pv 2) (pa_cons (pv 3) pa_nil))))))), fun vs Q => fn_pure (N := N_all_cards) (fun ds d h => ?_) (fun B S ds d h D hR hN => ?_) vs H Q E0⟩), hm, F.kp, F.binds fun _ _ _ _ _ _ us hl => match us, hl with | [_, _], _ => rfl⟩
  · obtain ⟨ranks, suits, rfl, h0, rfl⟩ := h; rfl
  · obtain ⟨ranks, suits, rfl, h0, rfl⟩ := h; simp
  · obtain ⟨ranks, suits, rfl, h0, rfl⟩ := h
    show Ss _ _ [.da (PyData.int ranks), .da (PyData.int suits), .no, .no] _ _
    exact s_ret (ed_is (ed_L (el_lc2A (xs := (List.range (ranks).toNat)) (ea := fun (i : Nat) => Itm.hard (PyData.int (i : Int))) (ys := fun (x1 : Nat) => (List.range (suits).toNat)) (eb := fun (x1 : Nat) => fun (i : Nat) => Itm.hard (PyData.int (i : Int))) (enc := (eP PyData.int PyData.int)) (fb := fun (x1 : Nat) (y2 : Nat) => ((x1 : Int), (y2 : Int))) (ei_rng (ed_var rfl) (by have := h0.1; have := h0.2; omega)) (by exact Nat.le_trans (packL_sz h0) (by decide)) (by simp) (by simp) (fun _ _ x1 hx1 => ⟨_, rfl, by simp, (eg_name (by simp)), (ei_rng (ed_var rfl) (by have := h0.1; have := h0.2; omega)), fun _ _ y2 hy2 => ⟨_, rfl, (eg_name (by simp)), (ed_tup (ds := [(PyData.int (x1 : Int)), (PyData.int (y2 : Int))]) (ea_cons (ed_var rfl) (ea_cons (ed_var rfl) ea_nil)))⟩⟩))) (by rfl : ((eL (eP PyData.int PyData.int)) (((List.range (ranks).toNat)).flatMap fun (x1 : Nat) => ((List.range (suits).toNat)).map fun (y2 : Nat) => ((x1 : Int), (y2 : Int)))) = ((eL (eP PyData.int PyData.int)) (packL ranks suits)))) hR

/-! ### draws_to -/
abbrev s_draws_to : Stmt := topS 25
abbrev N_draws_to : List Str := ["ranks", "suits", "held", "found", "card"]
theorem sc_draws_to : FnScope N_draws_to ["ranks", "suits", "held"] (defScope s_draws_to) := ⟨rfl, rfl, rfl, by decide +kernel, rfl, by decide +kernel, by decide +kernel⟩
def R_draws_to : List PyData → PyData → Prop := fun ds d => ∃ (ranks : Int) (suits : Int) (held : (List (Int × Int))), ds = [(PyData.int ranks), (PyData.int suits), ((eT (eP PyData.int PyData.int)) held)] ∧ (PackOk ranks suits) ∧ (CardsOk ranks suits held) ∧ (held.length = 4) ∧ d = ((eT PyData.int) (drawsF held (packL ranks suits)))
set_option maxHeartbeats 4000000 in
theorem ok_draws_to {P : Program} {w : World} {K : PySem.W.Frag} {mg : Str → Option Value} {base : Heap} (B : Gb K mg) (F : Fd K mg "draws_to" s_draws_to) (C_all_cards : Cl P w K mg base 1 "all_cards" ["ranks", "suits"] (SpP K R_all_cards)) (C_are_cards : Cl P w K mg base 3 "are_cards" ["ranks", "suits", "value", "many"] (SpP K R_are_cards)) (C_check_pack : Cl P w K mg base 2 "check_pack" ["ranks", "suits"] (SpP K R_check_pack)) (C_sort_of : Cl P w K mg base 2 "sort_of" ["hand"] (SpP K R_sort_of)) : Cl P w K mg base 4 "draws_to" ["ranks", "suits", "held"] (SpP K R_draws_to) := by
  have BG := B
  obtain ⟨f, fd, F, hm⟩ := F.ex
  refine ⟨f, fd, fnG_of (k := 3) F sc_draws_to (spP_len fun ds d h => ?_) (fun cdv A outer s H hr hgd => ⟨_, (pss_cons (ps_expr (pe_cl C_check_pack (hr.mono (by decide)) hgd (by rfl) (pa_cons (pv 0) (pa_cons (pv 1) pa_nil)))) (pss_cons (ps_if (pt_not (pt_truth (pe_cl C_are_cards (hr.mono (by decide)) hgd (by rfl) (pa_cons (pv 0) (pa_cons (pv 1) (pa_cons (pv 2) (pa_cons pe_int pa_nil))))) (fun _ => rfl))) pss_never pss_nil) (pss_cons (ps_set (i := 3) sc_draws_to.nd rfl (Or.inl rfl) (pe_op op_rep (pe_lst (pa_cons pe_int pa_nil)) (pe_callB (r := rLenS K) call_len_seq (by rfl) B.len_ PySem.boot_len (pa_cons (pe_glob (v := .ref B.c_SORTS.choose) rfl B.c_SORTS.choose_spec.1 rfl) pa_nil)))) (pss_cons (ps_for PassesOwn.never rfl (pi_list (pe_cl C_all_cards (hr.mono (by decide)) hgd (by rfl) (pa_cons (pv 0) (pa_cons (pv 1) pa_nil)))) (pg_name (i := 4) sc_draws_to.nd rfl (Or.inl rfl)) (pss_one (ps_if (pt_cmpR (r := rInT K true) (op_ninTD (room65 hr)) (pv 4) (pv 2) (by rfl)) (pss_one (ps_augS (pv 3) (pe_cl C_sort_of (hr.mono (by decide)) hgd (by rfl) (pa_cons (pe_callTy (r := rTupOf K) call_tupleF (by rfl) B.tuple_ PyProof.Rows.boot_tuple (pa_cons (pe_callB (r := rSortXT K (eP PyData.int PyData.int)) (cr_sortedXT (Nat.lt_of_le_of_lt (Nat.add_le_add_left (by decide : 64 ≤ 64) _) hr.units)) (by rfl) B.sorted_ (by decide +kernel) (pa_cons (pe_op (r := rCatF K) op_catF (pv 2) (pe_tupF (pa_cons (pv 4) pa_nil))) pa_nil)) pa_nil)) pa_nil)) get_listG pe_int ip_add set_list (fun _ _ _ => rfl))) pss_nil))) (pss_one (ps_ret (pe_callTy (r := rTupOf K) call_tupleF (by rfl) B.tuple_ PyProof.Rows.boot_tuple (pa_cons (pv 3) pa_nil)))))))), fun vs Q => fn_pure (N := N_draws_to) (fun ds d h => ?_) (fun B S ds d h D hR hN => ?_) vs H Q E0⟩), hm, F.kp, F.binds fun _ _ _ _ _ _ us hl => match us, hl with | [_, _, _], _ => rfl⟩
  · obtain ⟨ranks, suits, held, rfl, h0, h1, h2, rfl⟩ := h; rfl
  · obtain ⟨ranks, suits, held, rfl, h0, h1, h2, rfl⟩ := h; simp
  · obtain ⟨ranks, suits, held, rfl, h0, h1, h2, rfl⟩ := h
    show Ss _ _ [.da (PyData.int ranks), .da (PyData.int suits), .da ((eT (eP PyData.int PyData.int)) held), .no, .no] _ _
    refine s_seq (s_drop (ed_call (ds := [(PyData.int ranks), (PyData.int suits)]) (ea_cons (ed_var rfl) (ea_cons (ed_var rfl) ea_nil)) ⟨ranks, suits, rfl, by assumption, rfl⟩) ?_)
    refine s_seq (s_skip (et_not (et_truB (ed_call (ds := [(PyData.int ranks), (PyData.int suits), ((eT (eP PyData.int PyData.int)) held), (PyData.int (4 : Int))]) (ea_cons (ed_var rfl) (ea_cons (ed_var rfl) (ea_cons (ed_var rfl) (ea_cons ed_int ea_nil)))) ⟨ranks, suits, held, (4 : Int), rfl, by omega, by assumption, rfl⟩))) (by simp [h2] : (!(decide (((held).length : Int) = ((4 : Int))))) = false) ?_)
    refine s_seq (s_asgM (ds := ((List.replicate ((([Str.ofString "high", Str.ofString "pair", Str.ofString "pairs", Str.ofString "three", Str.ofString "row", Str.ofString "suit", Str.ofString "house", Str.ofString "four", Str.ofString "both"]).length : Int)).toNat [(0 : Int)]).flatten).map PyData.int) (el_rep (el_lst (ds := [(0 : Int)].map PyData.int) (ea_cons ed_int ea_nil)) (fun _ _ => (ed_lenTX (ed_is (d1 := (eT PyData.str) [Str.ofString "high", Str.ofString "pair", Str.ofString "pairs", Str.ofString "three", Str.ofString "row", Str.ofString "suit", Str.ofString "house", Str.ofString "four", Str.ofString "both"]) (ed_ref BG.c_SORTS.choose_spec.2) rfl))) (by simp)) (fun p_found1 => s_le (ρ1 := [.da (PyData.int ranks), .da (PyData.int suits), .da ((eT (eP PyData.int PyData.int)) held), .mu true p_found1 (.lst ((List.replicate ((([Str.ofString "high", Str.ofString "pair", Str.ofString "pairs", Str.ofString "three", Str.ofString "row", Str.ofString "suit", Str.ofString "house", Str.ofString "four", Str.ofString "both"]).length : Int)).toNat [(0 : Int)]).flatten.map PyData.int)), .no]) (le_rfl rfl) ?_))
    refine s_seq (s_forX ((packL (ranks) (suits))) (fun x => Itm.hard ((eP PyData.int PyData.int) x)) (ei_listX (ed_call (ds := [(PyData.int ranks), (PyData.int suits)]) (ea_cons (ed_var rfl) (ea_cons (ed_var rfl) ea_nil)) ⟨ranks, suits, rfl, by assumption, rfl⟩)) (fun i0 => [.da (PyData.int ranks), .da (PyData.int suits), .da ((eT (eP PyData.int PyData.int)) held), .mu true p_found1 (.lst ((drawsF held ((packL ranks suits).take i0)).map PyData.int)), .no]) (le_same (le_same (le_same (le_mu (congrArg MO.lst (by rfl)) (le_no le_nil))))) (fun T0 hT0 i0 x0 hx0 => ⟨_, [4], (eg_name (by simp)), ?_⟩) ?_)
    · show Ss _ _ [.da (PyData.int ranks), .da (PyData.int suits), .da ((eT (eP PyData.int PyData.int)) held), .mu true p_found1 (.lst ((drawsF held ((packL ranks suits).take i0)).map PyData.int)), .da ((eP PyData.int PyData.int) x0)] _ _
      refine (s_if (b := (!decide (x0 ∈ held))) (et_test (ed_is (ed_inTD (neg := true) (ed_var rfl) (ed_var rfl) (by exact sh_of (f := eP PyData.int PyData.int) _) (by exact sh_of (f := eT (eP PyData.int PyData.int)) _)) (by exact (nin_data (f := (eP PyData.int PyData.int)) _ _).trans (by congr) : _ = PyData.bool (!decide (x0 ∈ held))))) (fun hc1 => ?_) (fun hc1 => ?_))
      · refine (s_augSX (ed_call (ds := [((eT (eP PyData.int PyData.int)) (sortX (eP PyData.int PyData.int) (held ++ [x0])))]) (ea_cons (ed_tupleL (ed_L (el_sortXT (enc := (eP PyData.int PyData.int)) (ed_catT (f := (eP PyData.int PyData.int)) (l := held) (m := [x0]) (ed_var rfl) (ed_tup (ds := [((eP PyData.int PyData.int) x0)]) (ea_cons (ed_var rfl) ea_nil)) (by simp; omega)) (by exact pi_al _) (by exact pi_so _) (by exact fun p _ => card_depth p)))) ea_nil) ⟨(sortX (eP PyData.int PyData.int) (held ++ [x0])), rfl, by exact sort5 h2 _, rfl⟩) ed_int ⟨_, _, rfl⟩ rfl rfl (by rw [drawsF_len]; exact place_rng _) (s_le (ρ1 := [.da (PyData.int ranks), .da (PyData.int suits), .da ((eT (eP PyData.int PyData.int)) held), .mu true p_found1 (.lst (((drawsF held ((packL ranks suits).take i0)).set ((placeH ((sortX (eP PyData.int PyData.int) (held ++ [x0]))))).toNat (ixG (drawsF held ((packL ranks suits).take i0)) (placeH ((sortX (eP PyData.int PyData.int) (held ++ [x0])))) + (1 : Int))).map PyData.int)), .da ((eP PyData.int PyData.int) x0)]) (le_same (le_same (le_same (le_mu (congrArg MO.lst (by simp)) (le_same le_nil))))) ?_))
        exact s_end (le_same (le_same (le_same (le_mu (congrArg MO.lst (by first | exact congrArg (List.map PyData.int) (dr_yes hx0 hc1) | exact congrArg (List.map PyData.int) (dr_no hx0 hc1))) (le_no le_nil)))))
      · refine s_next ?_
        exact s_end (le_same (le_same (le_same (le_mu (congrArg MO.lst (by first | exact congrArg (List.map PyData.int) (dr_yes hx0 hc1) | exact congrArg (List.map PyData.int) (dr_no hx0 hc1))) (le_no le_nil)))))
    refine s_le (ρ1 := [.da (PyData.int ranks), .da (PyData.int suits), .da ((eT (eP PyData.int PyData.int)) held), .da ((eL PyData.int) (drawsF held ((packL ranks suits).take ((packL (ranks) (suits))).length))), .no]) (le_same (le_same (le_same (le_frz (le_no le_nil))))) ?_
    exact s_ret (ed_is (ed_tupleL (ed_var rfl)) (by rw [List.take_length] : ((eT PyData.int) (drawsF held ((packL ranks suits).take ((packL (ranks) (suits))).length))) = ((eT PyData.int) (drawsF held (packL ranks suits))))) hR

/-! ### sets_of_0 -/
abbrev s_sets_of_0 : Stmt := topS 26
abbrev N_sets_of_0 : List Str := ["many", "count", "found", "first", "rest"]
theorem sc_sets_of_0 : FnScope N_sets_of_0 ["many", "count"] (defScope s_sets_of_0) := ⟨rfl, rfl, rfl, by decide +kernel, rfl, by decide +kernel, by decide +kernel⟩
def R_sets_of_0 : List PyData → PyData → Prop := fun ds d => ∃ (many : Int) (count : Int), ds = [(PyData.int many), (PyData.int count)] ∧ (0 ≤ many ∧ many ≤ 7) ∧ (count = 0) ∧ d = ((eL (eT PyData.int)) (setsF many 0))
set_option maxHeartbeats 4000000 in
theorem ok_sets_of_0 {P : Program} {w : World} {K : PySem.W.Frag} {mg : Str → Option Value} {base : Heap} (B : Gb K mg) (F : Fd K mg "sets_of" s_sets_of_0) : Cl P w K mg base 1 "sets_of" ["many", "count"] (SpP K R_sets_of_0) := by
  have BG := B
  obtain ⟨f, fd, F, hm⟩ := F.ex
  refine ⟨f, fd, fnG_of (k := 0) F sc_sets_of_0 (spP_len fun ds d h => ?_) (fun cdv A outer s H hr hgd => ⟨_, (pss_cons (ps_if (pt_cmpR (r := rEqD K) (op_eqD hr.units) (pv 1) pe_int (nomark _)) (pss_one (ps_ret (pe_lst (pa_cons (pe_tupF pa_nil) pa_nil)))) pss_nil) pss_never), fun vs Q => fn_pure (N := N_sets_of_0) (fun ds d h => ?_) (fun B S ds d h D hR hN => ?_) vs H Q E0⟩), hm, F.kp, F.binds fun _ _ _ _ _ _ us hl => match us, hl with | [_, _], _ => rfl⟩
  · obtain ⟨many, count, rfl, h0, h1, rfl⟩ := h; rfl
  · obtain ⟨many, count, rfl, h0, h1, rfl⟩ := h; simp
  · obtain ⟨many, count, rfl, h0, h1, rfl⟩ := h
    show Ss _ _ [.da (PyData.int many), .da (PyData.int count), .no, .no, .no] _ _
    refine s_seq (s_if (b := (decide (count = (0 : Int)))) (et_test (ed_eqI (ed_var rfl) ed_int)) (fun hc0 => ?_) (fun hc0 => ?_))
    · exact s_ret (ed_is (ed_L (el_lst (ds := [[]].map (eT PyData.int)) (ea_cons (ed_tup (ds := []) ea_nil) ea_nil))) (by rfl : ((eL (eT PyData.int)) [[]]) = ((eL (eT PyData.int)) (setsF many 0)))) hR
    · exact absurd hc0 (by simp [h1])

/-! ### sets_of_1 -/
abbrev s_sets_of_1 : Stmt := topS 26
abbrev N_sets_of_1 : List Str := ["many", "count", "found", "first", "rest"]
theorem sc_sets_of_1 : FnScope N_sets_of_1 ["many", "count"] (defScope s_sets_of_1) := ⟨rfl, rfl, rfl, by decide +kernel, rfl, by decide +kernel, by decide +kernel⟩
def R_sets_of_1 : List PyData → PyData → Prop := fun ds d => ∃ (many : Int) (count : Int), ds = [(PyData.int many), (PyData.int count)] ∧ (0 ≤ many ∧ many ≤ 7) ∧ (count = 1) ∧ d = ((eL (eT PyData.int)) (setsF many 1))
set_option maxHeartbeats 4000000 in
theorem ok_sets_of_1 {P : Program} {w : World} {K : PySem.W.Frag} {mg : Str → Option Value} {base : Heap} (B : Gb K mg) (F : Fd K mg "sets_of" s_sets_of_1) (C_sets_of_0 : Cl P w K mg base 1 "sets_of" ["many", "count"] (SpP K R_sets_of_0)) : Cl P w K mg base 2 "sets_of" ["many", "count"] (SpP K R_sets_of_1) := by
  have BG := B
  obtain ⟨f, fd, F, hm⟩ := F.ex
  refine ⟨f, fd, fnG_of (k := 1) F sc_sets_of_1 (spP_len fun ds d h => ?_) (fun cdv A outer s H hr hgd => ⟨_, (pss_cons (ps_if (pt_cmpR (r := rEqD K) (op_eqD hr.units) (pv 1) pe_int (nomark _)) pss_never pss_nil) (pss_cons (ps_set (i := 2) sc_sets_of_1.nd rfl (Or.inl rfl) (pe_lst pa_nil)) (pss_cons (ps_for PassesOwn.never rfl (pi_range1 (by rfl) B.range_ (pa_cons (pv 0) pa_nil)) (pg_name (i := 3) sc_sets_of_1.nd rfl (Or.inr rfl)) (pss_one (ps_aug (i := 2) sc_sets_of_1.nd rfl (Or.inl rfl) (pe_lc (own := [("rest", 4)]) (g := _) (tt := _) rfl sc_sets_of_1.nd (pi_list (pe_cl C_sets_of_0 (hr.mono (by decide)) hgd (by rfl) (pa_cons (pv 0) (pa_cons (pe_op op_sub (pv 1) pe_int) pa_nil)))) (blkOk_by (N := N_sets_of_1) (sc := defScope s_sets_of_1) (by decide +kernel)) (fun _ _ _ _ _ => (pg_name (i := 4) sc_sets_of_1.nd rfl (by first | exact Or.inl rfl | exact Or.inr rfl))) (fun _ _ _ _ _ => (pts_one (PW.pt (pw_or (pt_not (pt_truthK (K := K) (pv 4) (fun _ => rfl))) (pw_or1 (pt_cmpR op_gt (pe_ix (r := rIxT K) ix_tup (pv 4) pe_int (fun _ _ => rfl)) (pv 3) (nomark _))))))) (fun _ _ _ _ _ => (pe_op (r := rCatF K) op_catF (pe_tupF (pa_cons (pv 3) pa_nil)) (pv 4)))) iop_ext))) (pss_one (ps_ret (pv 2)))))), fun vs Q => fn_pure (N := N_sets_of_1) (fun ds d h => ?_) (fun B S ds d h D hR hN => ?_) vs H Q E0⟩), hm, F.kp, F.binds fun _ _ _ _ _ _ us hl => match us, hl with | [_, _], _ => rfl⟩
  · obtain ⟨many, count, rfl, h0, h1, rfl⟩ := h; rfl
  · obtain ⟨many, count, rfl, h0, h1, rfl⟩ := h; simp
  · obtain ⟨many, count, rfl, h0, h1, rfl⟩ := h
    show Ss _ _ [.da (PyData.int many), .da (PyData.int count), .no, .no, .no] _ _
    refine s_seq (s_if (b := (decide (count = (0 : Int)))) (et_test (ed_eqI (ed_var rfl) ed_int)) (fun hc0 => ?_) (fun hc0 => ?_))
    · exact absurd hc0 (by simp [h1])
    · refine s_next ?_
      refine s_seq (s_asgM (ds := ([]).map (eT PyData.int)) (el_lst (ds := [].map (eT PyData.int)) ea_nil) (fun p_found1 => s_le (ρ1 := [.da (PyData.int many), .da (PyData.int count), .mu true p_found1 (.lst ([].map (eT PyData.int))), .no, .no]) (le_rfl rfl) ?_))
      refine s_seq (s_forX ((List.range (many).toNat)) (fun (i : Nat) => Itm.hard (PyData.int (i : Int))) (ei_rng (ed_var rfl) (by omega)) (fun i0 => [.da (PyData.int many), .da (PyData.int count), .mu true p_found1 (.lst ((((List.range many.toNat).take i0).flatMap (setsG (setsF many 0))).map (eT PyData.int))), .no, .no]) (le_same (le_same (le_mu (congrArg MO.lst (by rfl)) (le_no (le_no le_nil))))) (fun T0 hT0 i0 x0 hx0 => ⟨_, [3], (eg_name (by simp)), ?_⟩) ?_)
      · show Ss _ _ [.da (PyData.int many), .da (PyData.int count), .mu true p_found1 (.lst ((((List.range many.toNat).take i0).flatMap (setsG (setsF many 0))).map (eT PyData.int))), .da (PyData.int (x0 : Int)), .no] _ _
        have hlt := rng_get hx0
        refine (s_augL rfl (el_lcPX (xs := (setsF (many) 0)) (ea := fun x => Itm.hard ((eT PyData.int) x)) (p := fun (x2 : (List Int)) => ((!(!(x2).isEmpty)) || (decide ((x0 : Int) < (ixG x2 (0 : Int)))))) (enc := (fun l : List Int => PyData.tuple (l.map PyData.int))) (fb := fun (x2 : (List Int)) => ([(x0 : Int)] ++ x2)) (ei_listX (ed_call (ds := [(PyData.int many), (PyData.int (count - (1 : Int)))]) (ea_cons (ed_var rfl) (ea_cons (ed_I0 (ed_var rfl) ed_int) ea_nil)) ⟨many, (count - (1 : Int)), rfl, by exact h0, by omega, rfl⟩)) (by exact Nat.le_trans (sets_sz h0.2 (by decide)) (by decide)) (by simp) (fun _ _ x2 hx2 => ⟨_, rfl, (eg_name (by simp)), (et_or (et_not (et_truT (ed_var rfl))) (fun hb3 => (et_test (ed_B0 (ed_ixTX (f := PyData.int) (l := x2) (ed_var rfl) ed_int (by exact pos_of (by assumption))) (ed_var rfl))))), fun hp4 => (ed_catT (f := PyData.int) (l := [(x0 : Int)]) (m := x2) (ed_tup (ds := [(PyData.int (x0 : Int))]) (ea_cons (ed_var rfl) ea_nil)) (ed_var rfl) (by have := sets_row (by assumption); simp; omega))⟩)) rfl (by rw [List.length_map, List.length_map]; exact sets_ext h0.2 (by decide) (by omega)) (s_le (ρ1 := [.da (PyData.int many), .da (PyData.int count), .mu true p_found1 (.lst (((((List.range many.toNat).take i0).flatMap (setsG (setsF many 0))) ++ ((((setsF (many) 0)).filter fun (x2 : (List Int)) => ((!(!(x2).isEmpty)) || (decide ((x0 : Int) < (ixG x2 (0 : Int)))))).map fun (x2 : (List Int)) => ([(x0 : Int)] ++ x2))).map (eT PyData.int))), .da (PyData.int (x0 : Int)), .no]) (le_same (le_same (le_mu (congrArg MO.lst (by simp)) (le_same (le_same le_nil))))) ?_))
        exact s_end (le_same (le_same (le_mu (congrArg MO.lst (by exact congrArg (List.map (eT PyData.int)) (sets_step hx0).symm)) (le_no (le_no le_nil)))))
      refine s_le (ρ1 := [.da (PyData.int many), .da (PyData.int count), .da ((eL (eT PyData.int)) (((List.range many.toNat).take ((List.range (many).toNat)).length).flatMap (setsG (setsF many 0)))), .no, .no]) (le_same (le_same (le_frz (le_no (le_no le_nil))))) ?_
      exact s_ret (ed_is (ed_var rfl) (by rw [List.take_length]; rfl : ((eL (eT PyData.int)) (((List.range many.toNat).take ((List.range (many).toNat)).length).flatMap (setsG (setsF many 0)))) = ((eL (eT PyData.int)) (setsF many 1)))) hR

/-! ### sets_of_2 -/
abbrev s_sets_of_2 : Stmt := topS 26
abbrev N_sets_of_2 : List Str := ["many", "count", "found", "first", "rest"]
theorem sc_sets_of_2 : FnScope N_sets_of_2 ["many", "count"] (defScope s_sets_of_2) := ⟨rfl, rfl, rfl, by decide +kernel, rfl, by decide +kernel, by decide +kernel⟩
def R_sets_of_2 : List PyData → PyData → Prop := fun ds d => ∃ (many : Int) (count : Int), ds = [(PyData.int many), (PyData.int count)] ∧ (0 ≤ many ∧ many ≤ 7) ∧ (count = 2) ∧ d = ((eL (eT PyData.int)) (setsF many 2))
set_option maxHeartbeats 4000000 in
theorem ok_sets_of_2 {P : Program} {w : World} {K : PySem.W.Frag} {mg : Str → Option Value} {base : Heap} (B : Gb K mg) (F : Fd K mg "sets_of" s_sets_of_2) (C_sets_of_1 : Cl P w K mg base 2 "sets_of" ["many", "count"] (SpP K R_sets_of_1)) : Cl P w K mg base 3 "sets_of" ["many", "count"] (SpP K R_sets_of_2) := by
  have BG := B
  obtain ⟨f, fd, F, hm⟩ := F.ex
  refine ⟨f, fd, fnG_of (k := 2) F sc_sets_of_2 (spP_len fun ds d h => ?_) (fun cdv A outer s H hr hgd => ⟨_, (pss_cons (ps_if (pt_cmpR (r := rEqD K) (op_eqD hr.units) (pv 1) pe_int (nomark _)) pss_never pss_nil) (pss_cons (ps_set (i := 2) sc_sets_of_2.nd rfl (Or.inl rfl) (pe_lst pa_nil)) (pss_cons (ps_for PassesOwn.never rfl (pi_range1 (by rfl) B.range_ (pa_cons (pv 0) pa_nil)) (pg_name (i := 3) sc_sets_of_2.nd rfl (Or.inr rfl)) (pss_one (ps_aug (i := 2) sc_sets_of_2.nd rfl (Or.inl rfl) (pe_lc (own := [("rest", 4)]) (g := _) (tt := _) rfl sc_sets_of_2.nd (pi_list (pe_cl C_sets_of_1 (hr.mono (by decide)) hgd (by rfl) (pa_cons (pv 0) (pa_cons (pe_op op_sub (pv 1) pe_int) pa_nil)))) (blkOk_by (N := N_sets_of_2) (sc := defScope s_sets_of_2) (by decide +kernel)) (fun _ _ _ _ _ => (pg_name (i := 4) sc_sets_of_2.nd rfl (by first | exact Or.inl rfl | exact Or.inr rfl))) (fun _ _ _ _ _ => (pts_one (PW.pt (pw_or (pt_not (pt_truthK (K := K) (pv 4) (fun _ => rfl))) (pw_or1 (pt_cmpR op_gt (pe_ix (r := rIxT K) ix_tup (pv 4) pe_int (fun _ _ => rfl)) (pv 3) (nomark _))))))) (fun _ _ _ _ _ => (pe_op (r := rCatF K) op_catF (pe_tupF (pa_cons (pv 3) pa_nil)) (pv 4)))) iop_ext))) (pss_one (ps_ret (pv 2)))))), fun vs Q => fn_pure (N := N_sets_of_2) (fun ds d h => ?_) (fun B S ds d h D hR hN => ?_) vs H Q E0⟩), hm, F.kp, F.binds fun _ _ _ _ _ _ us hl => match us, hl with | [_, _], _ => rfl⟩
  · obtain ⟨many, count, rfl, h0, h1, rfl⟩ := h; rfl
  · obtain ⟨many, count, rfl, h0, h1, rfl⟩ := h; simp
  · obtain ⟨many, count, rfl, h0, h1, rfl⟩ := h
    show Ss _ _ [.da (PyData.int many), .da (PyData.int count), .no, .no, .no] _ _
    refine s_seq (s_if (b := (decide (count = (0 : Int)))) (et_test (ed_eqI (ed_var rfl) ed_int)) (fun hc0 => ?_) (fun hc0 => ?_))
    · exact absurd hc0 (by simp [h1])
    · refine s_next ?_
      refine s_seq (s_asgM (ds := ([]).map (eT PyData.int)) (el_lst (ds := [].map (eT PyData.int)) ea_nil) (fun p_found1 => s_le (ρ1 := [.da (PyData.int many), .da (PyData.int count), .mu true p_found1 (.lst ([].map (eT PyData.int))), .no, .no]) (le_rfl rfl) ?_))
      refine s_seq (s_forX ((List.range (many).toNat)) (fun (i : Nat) => Itm.hard (PyData.int (i : Int))) (ei_rng (ed_var rfl) (by omega)) (fun i0 => [.da (PyData.int many), .da (PyData.int count), .mu true p_found1 (.lst ((((List.range many.toNat).take i0).flatMap (setsG (setsF many 1))).map (eT PyData.int))), .no, .no]) (le_same (le_same (le_mu (congrArg MO.lst (by rfl)) (le_no (le_no le_nil))))) (fun T0 hT0 i0 x0 hx0 => ⟨_, [3], (eg_name (by simp)), ?_⟩) ?_)
      · show Ss _ _ [.da (PyData.int many), .da (PyData.int count), .mu true p_found1 (.lst ((((List.range many.toNat).take i0).flatMap (setsG (setsF many 1))).map (eT PyData.int))), .da (PyData.int (x0 : Int)), .no] _ _
        have hlt := rng_get hx0
        refine (s_augL rfl (el_lcPX (xs := (setsF (many) 1)) (ea := fun x => Itm.hard ((eT PyData.int) x)) (p := fun (x2 : (List Int)) => ((!(!(x2).isEmpty)) || (decide ((x0 : Int) < (ixG x2 (0 : Int)))))) (enc := (fun l : List Int => PyData.tuple (l.map PyData.int))) (fb := fun (x2 : (List Int)) => ([(x0 : Int)] ++ x2)) (ei_listX (ed_call (ds := [(PyData.int many), (PyData.int (count - (1 : Int)))]) (ea_cons (ed_var rfl) (ea_cons (ed_I0 (ed_var rfl) ed_int) ea_nil)) ⟨many, (count - (1 : Int)), rfl, by exact h0, by omega, rfl⟩)) (by exact Nat.le_trans (sets_sz h0.2 (by decide)) (by decide)) (by simp) (fun _ _ x2 hx2 => ⟨_, rfl, (eg_name (by simp)), (et_or (et_not (et_truT (ed_var rfl))) (fun hb3 => (et_test (ed_B0 (ed_ixTX (f := PyData.int) (l := x2) (ed_var rfl) ed_int (by exact pos_of (by assumption))) (ed_var rfl))))), fun hp4 => (ed_catT (f := PyData.int) (l := [(x0 : Int)]) (m := x2) (ed_tup (ds := [(PyData.int (x0 : Int))]) (ea_cons (ed_var rfl) ea_nil)) (ed_var rfl) (by have := sets_row (by assumption); simp; omega))⟩)) rfl (by rw [List.length_map, List.length_map]; exact sets_ext h0.2 (by decide) (by omega)) (s_le (ρ1 := [.da (PyData.int many), .da (PyData.int count), .mu true p_found1 (.lst (((((List.range many.toNat).take i0).flatMap (setsG (setsF many 1))) ++ ((((setsF (many) 1)).filter fun (x2 : (List Int)) => ((!(!(x2).isEmpty)) || (decide ((x0 : Int) < (ixG x2 (0 : Int)))))).map fun (x2 : (List Int)) => ([(x0 : Int)] ++ x2))).map (eT PyData.int))), .da (PyData.int (x0 : Int)), .no]) (le_same (le_same (le_mu (congrArg MO.lst (by simp)) (le_same (le_same le_nil))))) ?_))
        exact s_end (le_same (le_same (le_mu (congrArg MO.lst (by exact congrArg (List.map (eT PyData.int)) (sets_step hx0).symm)) (le_no (le_no le_nil)))))
      refine s_le (ρ1 := [.da (PyData.int many), .da (PyData.int count), .da ((eL (eT PyData.int)) (((List.range many.toNat).take ((List.range (many).toNat)).length).flatMap (setsG (setsF many 1)))), .no, .no]) (le_same (le_same (le_frz (le_no (le_no le_nil))))) ?_
      exact s_ret (ed_is (ed_var rfl) (by rw [List.take_length]; rfl : ((eL (eT PyData.int)) (((List.range many.toNat).take ((List.range (many).toNat)).length).flatMap (setsG (setsF many 1)))) = ((eL (eT PyData.int)) (setsF many 2)))) hR

/-! ### sets_of_3 -/
abbrev s_sets_of_3 : Stmt := topS 26
abbrev N_sets_of_3 : List Str := ["many", "count", "found", "first", "rest"]
theorem sc_sets_of_3 : FnScope N_sets_of_3 ["many", "count"] (defScope s_sets_of_3) := ⟨rfl, rfl, rfl, by decide +kernel, rfl, by decide +kernel, by decide +kernel⟩
def R_sets_of_3 : List PyData → PyData → Prop := fun ds d => ∃ (many : Int) (count : Int), ds = [(PyData.int many), (PyData.int count)] ∧ (0 ≤ many ∧ many ≤ 7) ∧ (count = 3) ∧ d = ((eL (eT PyData.int)) (setsF many 3))
set_option maxHeartbeats 4000000 in
theorem ok_sets_of_3 {P : Program} {w : World} {K : PySem.W.Frag} {mg : Str → Option Value} {base : Heap} (B : Gb K mg) (F : Fd K mg "sets_of" s_sets_of_3) (C_sets_of_2 : Cl P w K mg base 3 "sets_of" ["many", "count"] (SpP K R_sets_of_2)) : Cl P w K mg base 4 "sets_of" ["many", "count"] (SpP K R_sets_of_3) := by
  have BG := B
  obtain ⟨f, fd, F, hm⟩ := F.ex
  refine ⟨f, fd, fnG_of (k := 3) F sc_sets_of_3 (spP_len fun ds d h => ?_) (fun cdv A outer s H hr hgd => ⟨_, (pss_cons (ps_if (pt_cmpR (r := rEqD K) (op_eqD hr.units) (pv 1) pe_int (nomark _)) pss_never pss_nil) (pss_cons (ps_set (i := 2) sc_sets_of_3.nd rfl (Or.inl rfl) (pe_lst pa_nil)) (pss_cons (ps_for PassesOwn.never rfl (pi_range1 (by rfl) B.range_ (pa_cons (pv 0) pa_nil)) (pg_name (i := 3) sc_sets_of_3.nd rfl (Or.inr rfl)) (pss_one (ps_aug (i := 2) sc_sets_of_3.nd rfl (Or.inl rfl) (pe_lc (own := [("rest", 4)]) (g := _) (tt := _) rfl sc_sets_of_3.nd (pi_list (pe_cl C_sets_of_2 (hr.mono (by decide)) hgd (by rfl) (pa_cons (pv 0) (pa_cons (pe_op op_sub (pv 1) pe_int) pa_nil)))) (blkOk_by (N := N_sets_of_3) (sc := defScope s_sets_of_3) (by decide +kernel)) (fun _ _ _ _ _ => (pg_name (i := 4) sc_sets_of_3.nd rfl (by first | exact Or.inl rfl | exact Or.inr rfl))) (fun _ _ _ _ _ => (pts_one (PW.pt (pw_or (pt_not (pt_truthK (K := K) (pv 4) (fun _ => rfl))) (pw_or1 (pt_cmpR op_gt (pe_ix (r := rIxT K) ix_tup (pv 4) pe_int (fun _ _ => rfl)) (pv 3) (nomark _))))))) (fun _ _ _ _ _ => (pe_op (r := rCatF K) op_catF (pe_tupF (pa_cons (pv 3) pa_nil)) (pv 4)))) iop_ext))) (pss_one (ps_ret (pv 2)))))), fun vs Q => fn_pure (N := N_sets_of_3) (fun ds d h => ?_) (fun B S ds d h D hR hN => ?_) vs H Q E0⟩), hm, F.kp, F.binds fun _ _ _ _ _ _ us hl => match us, hl with | [_, _], _ => rfl⟩
  · obtain ⟨many, count, rfl, h0, h1, rfl⟩ := h; rfl
  · obtain ⟨many, count, rfl, h0, h1, rfl⟩ := h; simp
  · obtain ⟨many, count, rfl, h0, h1, rfl⟩ := h
    show Ss _ _ [.da (PyData.int many), .da (PyData.int count), .no, .no, .no] _ _
    refine s_seq (s_if (b := (decide (count = (0 : Int)))) (et_test (ed_eqI (ed_var rfl) ed_int)) (fun hc0 => ?_) (fun hc0 => ?_))
    · exact absurd hc0 (by simp [h1])
    · refine s_next ?_
      refine s_seq (s_asgM (ds := ([]).map (eT PyData.int)) (el_lst (ds := [].map (eT PyData.int)) ea_nil) (fun p_found1 => s_le (ρ1 := [.da (PyData.int many), .da (PyData.int count), .mu true p_found1 (.lst ([].map (eT PyData.int))), .no, .no]) (le_rfl rfl) ?_))
      refine s_seq (s_forX ((List.range (many).toNat)) (fun (i : Nat) => Itm.hard (PyData.int (i : Int))) (ei_rng (ed_var rfl) (by omega)) (fun i0 => [.da (PyData.int many), .da (PyData.int count), .mu true p_found1 (.lst ((((List.range many.toNat).take i0).flatMap (setsG (setsF many 2))).map (eT PyData.int))), .no, .no]) (le_same (le_same (le_mu (congrArg MO.lst (by rfl)) (le_no (le_no le_nil))))) (fun T0 hT0 i0 x0 hx0 => ⟨_, [3], (eg_name (by simp)), ?_⟩) ?_)
      · show Ss _ _ [.da (PyData.int many), .da (PyData.int count), .mu true p_found1 (.lst ((((List.range many.toNat).take i0).flatMap (setsG (setsF many 2))).map (eT PyData.int))), .da (PyData.int (x0 : Int)), .no] _ _
        have hlt := rng_get hx0
        refine (s_augL rfl (el_lcPX (xs := (setsF (many) 2)) (ea := fun x => Itm.hard ((eT PyData.int) x)) (p := fun (x2 : (List Int)) => ((!(!(x2).isEmpty)) || (decide ((x0 : Int) < (ixG x2 (0 : Int)))))) (enc := (fun l : List Int => PyData.tuple (l.map PyData.int))) (fb := fun (x2 : (List Int)) => ([(x0 : Int)] ++ x2)) (ei_listX (ed_call (ds := [(PyData.int many), (PyData.int (count - (1 : Int)))]) (ea_cons (ed_var rfl) (ea_cons (ed_I0 (ed_var rfl) ed_int) ea_nil)) ⟨many, (count - (1 : Int)), rfl, by exact h0, by omega, rfl⟩)) (by exact Nat.le_trans (sets_sz h0.2 (by decide)) (by decide)) (by simp) (fun _ _ x2 hx2 => ⟨_, rfl, (eg_name (by simp)), (et_or (et_not (et_truT (ed_var rfl))) (fun hb3 => (et_test (ed_B0 (ed_ixTX (f := PyData.int) (l := x2) (ed_var rfl) ed_int (by exact pos_of (by assumption))) (ed_var rfl))))), fun hp4 => (ed_catT (f := PyData.int) (l := [(x0 : Int)]) (m := x2) (ed_tup (ds := [(PyData.int (x0 : Int))]) (ea_cons (ed_var rfl) ea_nil)) (ed_var rfl) (by have := sets_row (by assumption); simp; omega))⟩)) rfl (by rw [List.length_map, List.length_map]; exact sets_ext h0.2 (by decide) (by omega)) (s_le (ρ1 := [.da (PyData.int many), .da (PyData.int count), .mu true p_found1 (.lst (((((List.range many.toNat).take i0).flatMap (setsG (setsF many 2))) ++ ((((setsF (many) 2)).filter fun (x2 : (List Int)) => ((!(!(x2).isEmpty)) || (decide ((x0 : Int) < (ixG x2 (0 : Int)))))).map fun (x2 : (List Int)) => ([(x0 : Int)] ++ x2))).map (eT PyData.int))), .da (PyData.int (x0 : Int)), .no]) (le_same (le_same (le_mu (congrArg MO.lst (by simp)) (le_same (le_same le_nil))))) ?_))
        exact s_end (le_same (le_same (le_mu (congrArg MO.lst (by exact congrArg (List.map (eT PyData.int)) (sets_step hx0).symm)) (le_no (le_no le_nil)))))
      refine s_le (ρ1 := [.da (PyData.int many), .da (PyData.int count), .da ((eL (eT PyData.int)) (((List.range many.toNat).take ((List.range (many).toNat)).length).flatMap (setsG (setsF many 2)))), .no, .no]) (le_same (le_same (le_frz (le_no (le_no le_nil))))) ?_
      exact s_ret (ed_is (ed_var rfl) (by rw [List.take_length]; rfl : ((eL (eT PyData.int)) (((List.range many.toNat).take ((List.range (many).toNat)).length).flatMap (setsG (setsF many 2)))) = ((eL (eT PyData.int)) (setsF many 3)))) hR

/-! ### sets_of_4 -/
abbrev s_sets_of_4 : Stmt := topS 26
abbrev N_sets_of_4 : List Str := ["many", "count", "found", "first", "rest"]
theorem sc_sets_of_4 : FnScope N_sets_of_4 ["many", "count"] (defScope s_sets_of_4) := ⟨rfl, rfl, rfl, by decide +kernel, rfl, by decide +kernel, by decide +kernel⟩
def R_sets_of_4 : List PyData → PyData → Prop := fun ds d => ∃ (many : Int) (count : Int), ds = [(PyData.int many), (PyData.int count)] ∧ (0 ≤ many ∧ many ≤ 7) ∧ (count = 4) ∧ d = ((eL (eT PyData.int)) (setsF many 4))
set_option maxHeartbeats 4000000 in
theorem ok_sets_of_4 {P : Program} {w : World} {K : PySem.W.Frag} {mg : Str → Option Value} {base : Heap} (B : Gb K mg) (F : Fd K mg "sets_of" s_sets_of_4) (C_sets_of_3 : Cl P w K mg base 4 "sets_of" ["many", "count"] (SpP K R_sets_of_3)) : Cl P w K mg base 5 "sets_of" ["many", "count"] (SpP K R_sets_of_4) := by
  have BG := B
  obtain ⟨f, fd, F, hm⟩ := F.ex
  refine ⟨f, fd, fnG_of (k := 4) F sc_sets_of_4 (spP_len fun ds d h => ?_) (fun cdv A outer s H hr hgd => ⟨_, (pss_cons (ps_if (pt_cmpR (r := rEqD K) (op_eqD hr.units) (pv 1) pe_int (nomark _)) pss_never pss_nil) (pss_cons (ps_set (i := 2) sc_sets_of_4.nd rfl (Or.inl rfl) (pe_lst pa_nil)) (pss_cons (ps_for PassesOwn.never rfl (pi_range1 (by rfl) B.range_ (pa_cons (pv 0) pa_nil)) (pg_name (i := 3) sc_sets_of_4.nd rfl (Or.inr rfl)) (pss_one (ps_aug (i := 2) sc_sets_of_4.nd rfl (Or.inl rfl) (pe_lc (own := [("rest", 4)]) (g := _) (tt := _) rfl sc_sets_of_4.nd (pi_list (pe_cl C_sets_of_3 (hr.mono (by decide)) hgd (by rfl) (pa_cons (pv 0) (pa_cons (pe_op op_sub (pv 1) pe_int) pa_nil)))) (blkOk_by (N := N_sets_of_4) (sc := defScope s_sets_of_4) (by decide +kernel)) (fun _ _ _ _ _ => (pg_name (i := 4) sc_sets_of_4.nd rfl (by first | exact Or.inl rfl | exact Or.inr rfl))) (fun _ _ _ _ _ => (pts_one (PW.pt (pw_or (pt_not (pt_truthK (K := K) (pv 4) (fun _ => rfl))) (pw_or1 (pt_cmpR op_gt (pe_ix (r := rIxT K) ix_tup (pv 4) pe_int (fun _ _ => rfl)) (pv 3) (nomark _))))))) (fun _ _ _ _ _ => (pe_op (r := rCatF K) op_catF (pe_tupF (pa_cons (pv 3) pa_nil)) (pv 4)))) iop_ext))) (pss_one (ps_ret (pv 2)))))), fun vs Q => fn_pure (N := N_sets_of_4) (fun ds d h => ?_) (fun B S ds d h D hR hN => ?_) vs H Q E0⟩), hm, F.kp, F.binds fun _ _ _ _ _ _ us hl => match us, hl with | [_, _], _ => rfl⟩
  · obtain ⟨many, count, rfl, h0, h1, rfl⟩ := h; rfl
  · obtain ⟨many, count, rfl, h0, h1, rfl⟩ := h; simp
  · obtain ⟨many, count, rfl, h0, h1, rfl⟩ := h
    show Ss _ _ [.da (PyData.int many), .da (PyData.int count), .no, .no, .no] _ _
    refine s_seq (s_if (b := (decide (count = (0 : Int)))) (et_test (ed_eqI (ed_var rfl) ed_int)) (fun hc0 => ?_) (fun hc0 => ?_))
    · exact absurd hc0 (by simp [h1])
    · refine s_next ?_
      refine s_seq (s_asgM (ds := ([]).map (eT PyData.int)) (el_lst (ds := [].map (eT PyData.int)) ea_nil) (fun p_found1 => s_le (ρ1 := [.da (PyData.int many), .da (PyData.int count), .mu true p_found1 (.lst ([].map (eT PyData.int))), .no, .no]) (le_rfl rfl) ?_))
      refine s_seq (s_forX ((List.range (many).toNat)) (fun (i : Nat) => Itm.hard (PyData.int (i : Int))) (ei_rng (ed_var rfl) (by omega)) (fun i0 => [.da (PyData.int many), .da (PyData.int count), .mu true p_found1 (.lst ((((List.range many.toNat).take i0).flatMap (setsG (setsF many 3))).map (eT PyData.int))), .no, .no]) (le_same (le_same (le_mu (congrArg MO.lst (by rfl)) (le_no (le_no le_nil))))) (fun T0 hT0 i0 x0 hx0 => ⟨_, [3], (eg_name (by simp)), ?_⟩) ?_)
      · show Ss _ _ [.da (PyData.int many), .da (PyData.int count), .mu true p_found1 (.lst ((((List.range many.toNat).take i0).flatMap (setsG (setsF many 3))).map (eT PyData.int))), .da (PyData.int (x0 : Int)), .no] _ _
        have hlt := rng_get hx0
        refine (s_augL rfl (el_lcPX (xs := (setsF (many) 3)) (ea := fun x => Itm.hard ((eT PyData.int) x)) (p := fun (x2 : (List Int)) => ((!(!(x2).isEmpty)) || (decide ((x0 : Int) < (ixG x2 (0 : Int)))))) (enc := (fun l : List Int => PyData.tuple (l.map PyData.int))) (fb := fun (x2 : (List Int)) => ([(x0 : Int)] ++ x2)) (ei_listX (ed_call (ds := [(PyData.int many), (PyData.int (count - (1 : Int)))]) (ea_cons (ed_var rfl) (ea_cons (ed_I0 (ed_var rfl) ed_int) ea_nil)) ⟨many, (count - (1 : Int)), rfl, by exact h0, by omega, rfl⟩)) (by exact Nat.le_trans (sets_sz h0.2 (by decide)) (by decide)) (by simp) (fun _ _ x2 hx2 => ⟨_, rfl, (eg_name (by simp)), (et_or (et_not (et_truT (ed_var rfl))) (fun hb3 => (et_test (ed_B0 (ed_ixTX (f := PyData.int) (l := x2) (ed_var rfl) ed_int (by exact pos_of (by assumption))) (ed_var rfl))))), fun hp4 => (ed_catT (f := PyData.int) (l := [(x0 : Int)]) (m := x2) (ed_tup (ds := [(PyData.int (x0 : Int))]) (ea_cons (ed_var rfl) ea_nil)) (ed_var rfl) (by have := sets_row (by assumption); simp; omega))⟩)) rfl (by rw [List.length_map, List.length_map]; exact sets_ext h0.2 (by decide) (by omega)) (s_le (ρ1 := [.da (PyData.int many), .da (PyData.int count), .mu true p_found1 (.lst (((((List.range many.toNat).take i0).flatMap (setsG (setsF many 3))) ++ ((((setsF (many) 3)).filter fun (x2 : (List Int)) => ((!(!(x2).isEmpty)) || (decide ((x0 : Int) < (ixG x2 (0 : Int)))))).map fun (x2 : (List Int)) => ([(x0 : Int)] ++ x2))).map (eT PyData.int))), .da (PyData.int (x0 : Int)), .no]) (le_same (le_same (le_mu (congrArg MO.lst (by simp)) (le_same (le_same le_nil))))) ?_))
        exact s_end (le_same (le_same (le_mu (congrArg MO.lst (by exact congrArg (List.map (eT PyData.int)) (sets_step hx0).symm)) (le_no (le_no le_nil)))))
      refine s_le (ρ1 := [.da (PyData.int many), .da (PyData.int count), .da ((eL (eT PyData.int)) (((List.range many.toNat).take ((List.range (many).toNat)).length).flatMap (setsG (setsF many 3)))), .no, .no]) (le_same (le_same (le_frz (le_no (le_no le_nil))))) ?_
      exact s_ret (ed_is (ed_var rfl) (by rw [List.take_length]; rfl : ((eL (eT PyData.int)) (((List.range many.toNat).take ((List.range (many).toNat)).length).flatMap (setsG (setsF many 3)))) = ((eL (eT PyData.int)) (setsF many 4)))) hR

/-! ### sets_of_5 -/
abbrev s_sets_of_5 : Stmt := topS 26
abbrev N_sets_of_5 : List Str := ["many", "count", "found", "first", "rest"]
theorem sc_sets_of_5 : FnScope N_sets_of_5 ["many", "count"] (defScope s_sets_of_5) := ⟨rfl, rfl, rfl, by decide +kernel, rfl, by decide +kernel, by decide +kernel⟩
def R_sets_of_5 : List PyData → PyData → Prop := fun ds d => ∃ (many : Int) (count : Int), ds = [(PyData.int many), (PyData.int count)] ∧ (0 ≤ many ∧ many ≤ 7) ∧ (count = 5) ∧ d = ((eL (eT PyData.int)) (setsF many 5))
set_option maxHeartbeats 4000000 in
theorem ok_sets_of_5 {P : Program} {w : World} {K : PySem.W.Frag} {mg : Str → Option Value} {base : Heap} (B : Gb K mg) (F : Fd K mg "sets_of" s_sets_of_5) (C_sets_of_4 : Cl P w K mg base 5 "sets_of" ["many", "count"] (SpP K R_sets_of_4)) : Cl P w K mg base 6 "sets_of" ["many", "count"] (SpP K R_sets_of_5) := by
  have BG := B
  obtain ⟨f, fd, F, hm⟩ := F.ex
  refine ⟨f, fd, fnG_of (k := 5) F sc_sets_of_5 (spP_len fun ds d h => ?_) (fun cdv A outer s H hr hgd => ⟨_, (pss_cons (ps_if (pt_cmpR (r := rEqD K) (op_eqD hr.units) (pv 1) pe_int (nomark _)) pss_never pss_nil) (pss_cons (ps_set (i := 2) sc_sets_of_5.nd rfl (Or.inl rfl) (pe_lst pa_nil)) (pss_cons (ps_for PassesOwn.never rfl (pi_range1 (by rfl) B.range_ (pa_cons (pv 0) pa_nil)) (pg_name (i := 3) sc_sets_of_5.nd rfl (Or.inr rfl)) (pss_one (ps_aug (i := 2) sc_sets_of_5.nd rfl (Or.inl rfl) (pe_lc (own := [("rest", 4)]) (g := _) (tt := _) rfl sc_sets_of_5.nd (pi_list (pe_cl C_sets_of_4 (hr.mono (by decide)) hgd (by rfl) (pa_cons (pv 0) (pa_cons (pe_op op_sub (pv 1) pe_int) pa_nil)))) (blkOk_by (N := N_sets_of_5) (sc := defScope s_sets_of_5) (by decide +kernel)) (fun _ _ _ _ _ => (pg_name (i := 4) sc_sets_of_5.nd rfl (by first | exact Or.inl rfl | exact Or.inr rfl))) (fun _ _ _ _ _ => (pts_one (PW.pt (pw_or (pt_not (pt_truthK (K := K) (pv 4) (fun _ => rfl))) (pw_or1 (pt_cmpR op_gt (pe_ix (r := rIxT K) ix_tup (pv 4) pe_int (fun _ _ => rfl)) (pv 3) (nomark _))))))) (fun _ _ _ _ _ => (pe_op (r := rCatF K) op_catF (pe_tupF (pa_cons (pv 3) pa_nil)) (pv 4)))) iop_ext))) (pss_one (ps_ret (pv 2)))))), fun vs Q => fn_pure (N := N_sets_of_5) (fun ds d h => ?_) (fun B S ds d h D hR hN => ?_) vs H Q E0⟩), hm, F.kp, F.binds fun _ _ _ _ _ _ us hl => match us, hl with | [_, _], _ => rfl⟩
  · obtain ⟨many, count, rfl, h0, h1, rfl⟩ := h; rfl
  · obtain ⟨many, count, rfl, h0, h1, rfl⟩ := h; simp
  · obtain ⟨many, count, rfl, h0, h1, rfl⟩ := h
    show Ss _ _ [.da (PyData.int many), .da (PyData.int count), .no, .no, .no] _ _
    refine s_seq (s_if (b := (decide (count = (0 : Int)))) (et_test (ed_eqI (ed_var rfl) ed_int)) (fun hc0 => ?_) (fun hc0 => ?_))
    · exact absurd hc0 (by simp [h1])
    · refine s_next ?_
      refine s_seq (s_asgM (ds := ([]).map (eT PyData.int)) (el_lst (ds := [].map (eT PyData.int)) ea_nil) (fun p_found1 => s_le (ρ1 := [.da (PyData.int many), .da (PyData.int count), .mu true p_found1 (.lst ([].map (eT PyData.int))), .no, .no]) (le_rfl rfl) ?_))
      refine s_seq (s_forX ((List.range (many).toNat)) (fun (i : Nat) => Itm.hard (PyData.int (i : Int))) (ei_rng (ed_var rfl) (by omega)) (fun i0 => [.da (PyData.int many), .da (PyData.int count), .mu true p_found1 (.lst ((((List.range many.toNat).take i0).flatMap (setsG (setsF many 4))).map (eT PyData.int))), .no, .no]) (le_same (le_same (le_mu (congrArg MO.lst (by rfl)) (le_no (le_no le_nil))))) (fun T0 hT0 i0 x0 hx0 => ⟨_, [3], (eg_name (by simp)), ?_⟩) ?_)
      · show Ss _ _ [.da (PyData.int many), .da (PyData.int count), .mu true p_found1 (.lst ((((List.range many.toNat).take i0).flatMap (setsG (setsF many 4))).map (eT PyData.int))), .da (PyData.int (x0 : Int)), .no] _ _
        have hlt := rng_get hx0
        refine (s_augL rfl (el_lcPX (xs := (setsF (many) 4)) (ea := fun x => Itm.hard ((eT PyData.int) x)) (p := fun (x2 : (List Int)) => ((!(!(x2).isEmpty)) || (decide ((x0 : Int) < (ixG x2 (0 : Int)))))) (enc := (fun l : List Int => PyData.tuple (l.map PyData.int))) (fb := fun (x2 : (List Int)) => ([(x0 : Int)] ++ x2)) (ei_listX (ed_call (ds := [(PyData.int many), (PyData.int (count - (1 : Int)))]) (ea_cons (ed_var rfl) (ea_cons (ed_I0 (ed_var rfl) ed_int) ea_nil)) ⟨many, (count - (1 : Int)), rfl, by exact h0, by omega, rfl⟩)) (by exact Nat.le_trans (sets_sz h0.2 (by decide)) (by decide)) (by simp) (fun _ _ x2 hx2 => ⟨_, rfl, (eg_name (by simp)), (et_or (et_not (et_truT (ed_var rfl))) (fun hb3 => (et_test (ed_B0 (ed_ixTX (f := PyData.int) (l := x2) (ed_var rfl) ed_int (by exact pos_of (by assumption))) (ed_var rfl))))), fun hp4 => (ed_catT (f := PyData.int) (l := [(x0 : Int)]) (m := x2) (ed_tup (ds := [(PyData.int (x0 : Int))]) (ea_cons (ed_var rfl) ea_nil)) (ed_var rfl) (by have := sets_row (by assumption); simp; omega))⟩)) rfl (by rw [List.length_map, List.length_map]; exact sets_ext h0.2 (by decide) (by omega)) (s_le (ρ1 := [.da (PyData.int many), .da (PyData.int count), .mu true p_found1 (.lst (((((List.range many.toNat).take i0).flatMap (setsG (setsF many 4))) ++ ((((setsF (many) 4)).filter fun (x2 : (List Int)) => ((!(!(x2).isEmpty)) || (decide ((x0 : Int) < (ixG x2 (0 : Int)))))).map fun (x2 : (List Int)) => ([(x0 : Int)] ++ x2))).map (eT PyData.int))), .da (PyData.int (x0 : Int)), .no]) (le_same (le_same (le_mu (congrArg MO.lst (by simp)) (le_same (le_same le_nil))))) ?_))
        exact s_end (le_same (le_same (le_mu (congrArg MO.lst (by exact congrArg (List.map (eT PyData.int)) (sets_step hx0).symm)) (le_no (le_no le_nil)))))
      refine s_le (ρ1 := [.da (PyData.int many), .da (PyData.int count), .da ((eL (eT PyData.int)) (((List.range many.toNat).take ((List.range (many).toNat)).length).flatMap (setsG (setsF many 4)))), .no, .no]) (le_same (le_same (le_frz (le_no (le_no le_nil))))) ?_
      exact s_ret (ed_is (ed_var rfl) (by rw [List.take_length]; rfl : ((eL (eT PyData.int)) (((List.range many.toNat).take ((List.range (many).toNat)).length).flatMap (setsG (setsF many 4)))) = ((eL (eT PyData.int)) (setsF many 5)))) hR

/-! ### best_of -/
abbrev s_best_of : Stmt := topS 27
abbrev N_best_of : List Str := ["ranks", "suits", "cards", "many", "best", "row", "hand", "at"]
theorem sc_best_of : FnScope N_best_of ["ranks", "suits", "cards"] (defScope s_best_of) := ⟨rfl, rfl, rfl, by decide +kernel, rfl, by decide +kernel, by decide +kernel⟩
def R_best_of : List PyData → PyData → Prop := fun ds d => ∃ (ranks : Int) (suits : Int) (cards : (List (Int × Int))), ds = [(PyData.int ranks), (PyData.int suits), ((eT (eP PyData.int PyData.int)) cards)] ∧ (PackOk ranks suits) ∧ (CardsOk ranks suits cards) ∧ (6 ≤ cards.length ∧ cards.length ≤ 7) ∧ d = ((eT (eP PyData.int PyData.int)) ((bestO cards (setsF cards.length 5)).getD default))
set_option maxHeartbeats 4000000 in
theorem ok_best_of {P : Program} {w : World} {K : PySem.W.Frag} {mg : Str → Option Value} {base : Heap} (B : Gb K mg) (F : Fd K mg "best_of" s_best_of) (C_are_cards : Cl P w K mg base 3 "are_cards" ["ranks", "suits", "value", "many"] (SpP K R_are_cards)) (C_check_pack : Cl P w K mg base 2 "check_pack" ["ranks", "suits"] (SpP K R_check_pack)) (C_sets_of_5 : Cl P w K mg base 6 "sets_of" ["many", "count"] (SpP K R_sets_of_5)) (C_worth : Cl P w K mg base 3 "worth" ["hand"] (SpP K R_worth)) : Cl P w K mg base 7 "best_of" ["ranks", "suits", "cards"] (SpP K R_best_of) := by
  have BG := B
  obtain ⟨f, fd, F, hm⟩ := F.ex
  refine ⟨f, fd, fnG_of (k := 6) F sc_best_of (spP_len fun ds d h => ?_) (fun cdv A outer s H hr hgd => ⟨_, (pss_cons (ps_expr (pe_cl C_check_pack (hr.mono (by decide)) hgd (by rfl) (pa_cons (pv 0) (pa_cons (pv 1) pa_nil)))) (pss_cons (ps_if (pt_not (pt_truth (pe_callB (r := rAny K) (cr_any rfl) (by rfl) B.any_ (by decide +kernel) (pa_cons (pe_lc (own := [("many", 3)]) (g := _) (tt := tYes) rfl sc_best_of.nd (pi_tup (pe_tupF (pa_cons pe_int (pa_cons pe_int pa_nil)))) (blkOk_by (N := N_best_of) (sc := defScope s_best_of) (by decide +kernel)) (fun _ _ _ _ _ => (pg_name (i := 3) sc_best_of.nd rfl (by first | exact Or.inl rfl | exact Or.inr rfl))) (fun _ _ _ _ _ => pts_nil) (fun _ _ _ _ _ => (pe_cl C_are_cards (hr.mono (by decide)) hgd (by rfl) (pa_cons (pv 0) (pa_cons (pv 1) (pa_cons (pv 2) (pa_cons (pv 3) pa_nil))))))) pa_nil)) (fun _ => rfl))) pss_never pss_nil) (pss_cons (ps_set (i := 4) sc_best_of.nd rfl (Or.inl rfl) pe_non) (pss_cons (ps_for PassesOwn.never rfl (pi_list (pe_cl C_sets_of_5 (hr.mono (by decide)) hgd (by rfl) (pa_cons (pe_callB (r := rLenS K) call_len_seq (by rfl) B.len_ PySem.boot_len (pa_cons (pv 2) pa_nil)) (pa_cons pe_int pa_nil)))) (pg_name (i := 5) sc_best_of.nd rfl (Or.inl rfl)) (pss_cons (ps_set (i := 6) sc_best_of.nd rfl (Or.inl rfl) (pe_callTy (r := rTupOf K) call_tupleF (by rfl) B.tuple_ PyProof.Rows.boot_tuple (pa_cons (pe_lc (own := [("at", 7)]) (g := _) (tt := tYes) rfl sc_best_of.nd (pi_tup (pv 5)) (blkOk_by (N := N_best_of) (sc := defScope s_best_of) (by decide +kernel)) (fun _ _ _ _ _ => (pg_name (i := 7) sc_best_of.nd rfl (by first | exact Or.inl rfl | exact Or.inr rfl))) (fun _ _ _ _ _ => pts_nil) (fun _ _ _ _ _ => (pe_ix (r := rIxT K) ix_tup (pv 2) (pv 7) (fun _ _ => rfl)))) pa_nil))) (pss_one (ps_if (PW.pt (pw_or (pt_cmpR op_isN (pv 4) pe_non (nomark _)) (pw_or1 (pt_cmpR (r := rCmpD K (fun d e => PySem.W.dataLt e d)) (op_gtD hr.units) (pe_cl C_worth (hr.mono (by decide)) hgd (by rfl) (pa_cons (pv 6) pa_nil)) (pe_cl C_worth (hr.mono (by decide)) hgd (by rfl) (pa_cons (pv 4) pa_nil)) (nomark _))))) (pss_one (ps_set (i := 4) sc_best_of.nd rfl (Or.inl rfl) (pv 6))) pss_nil)))) (pss_one (ps_ret (pv 4))))))), fun vs Q => fn_pure (N := N_best_of) (fun ds d h => ?_) (fun B S ds d h D hR hN => ?_) vs H Q E0⟩), hm, F.kp, F.binds fun _ _ _ _ _ _ us hl => match us, hl with | [_, _, _], _ => rfl⟩
  · obtain ⟨ranks, suits, cards, rfl, h0, h1, h2, rfl⟩ := h; rfl
  · obtain ⟨ranks, suits, cards, rfl, h0, h1, h2, rfl⟩ := h; simp
  · obtain ⟨ranks, suits, cards, rfl, h0, h1, h2, rfl⟩ := h
    show Ss _ _ [.da (PyData.int ranks), .da (PyData.int suits), .da ((eT (eP PyData.int PyData.int)) cards), .no, .no, .no, .no, .no] _ _
    refine s_seq (s_drop (ed_call (ds := [(PyData.int ranks), (PyData.int suits)]) (ea_cons (ed_var rfl) (ea_cons (ed_var rfl) ea_nil)) ⟨ranks, suits, rfl, by assumption, rfl⟩) ?_)
    refine s_seq (s_skip (et_not (et_truB (ed_any (ed_L (el_lcAX (xs := [(((6 : Int), (7 : Int))).1, (((6 : Int), (7 : Int))).2]) (ea := fun x => Itm.hard (PyData.int x)) (enc := PyData.bool) (fb := fun (x1 : Int) => (decide (((cards).length : Int) = (x1)))) (ei_tupX (ed_is (ed_tup (ds := [(PyData.int (6 : Int)), (PyData.int (7 : Int))]) (ea_cons ed_int (ea_cons ed_int ea_nil))) (rfl : _ = ((eT PyData.int) [(((6 : Int), (7 : Int))).1, (((6 : Int), (7 : Int))).2])))) (by decide) (by simp) (fun _ _ x1 hx1 => ⟨_, rfl, (eg_name (by simp)), (ed_call (ds := [(PyData.int ranks), (PyData.int suits), ((eT (eP PyData.int PyData.int)) cards), (PyData.int x1)]) (ea_cons (ed_var rfl) (ea_cons (ed_var rfl) (ea_cons (ed_var rfl) (ea_cons (ed_var rfl) ea_nil)))) ⟨ranks, suits, cards, x1, rfl, by rcases mem2 (by assumption) with e | e <;> (rw [e]; decide), by assumption, rfl⟩)⟩)))))) (by exact is67 h2 : (!(((([(((6 : Int), (7 : Int))).1, (((6 : Int), (7 : Int))).2]).map fun (x1 : Int) => (decide (((cards).length : Int) = (x1))))).any id)) = false) ?_)
    refine s_seq (s_asg (ed_is ed_non (rfl : _ = ((eO (eT (eP PyData.int PyData.int))) (none : (Option (List (Int × Int))))))) (s_le (ρ1 := [.da (PyData.int ranks), .da (PyData.int suits), .da ((eT (eP PyData.int PyData.int)) cards), .no, .da ((eO (eT (eP PyData.int PyData.int))) (none : (Option (List (Int × Int))))), .no, .no, .no]) (le_rfl rfl) ?_))
    refine s_seq (s_forX ((setsF (((cards).length : Int)) 5)) (fun x => Itm.hard ((eT PyData.int) x)) (ei_listX (ed_call (ds := [(PyData.int ((cards).length : Int)), (PyData.int (5 : Int))]) (ea_cons (ed_lenTX (ed_var rfl)) (ea_cons ed_int ea_nil)) ⟨((cards).length : Int), (5 : Int), rfl, by omega, by rfl, rfl⟩)) (fun i0 => [.da (PyData.int ranks), .da (PyData.int suits), .da ((eT (eP PyData.int PyData.int)) cards), .no, .da ((eO (eT (eP PyData.int PyData.int))) (bestO cards ((setsF cards.length 5).take i0))), .no, .no, .no]) (le_same (le_same (le_same (le_no (le_da (by rfl) (le_no (le_no (le_no le_nil)))))))) (fun T0 hT0 i0 x0 hx0 => ⟨_, [5], (eg_name (by simp)), ?_⟩) ?_)
    · show Ss _ _ [.da (PyData.int ranks), .da (PyData.int suits), .da ((eT (eP PyData.int PyData.int)) cards), .no, .da ((eO (eT (eP PyData.int PyData.int))) (bestO cards ((setsF cards.length 5).take i0))), .da ((eT PyData.int) x0), .no, .no] _ _
      have hin := List.mem_of_getElem? hx0
      refine s_seq (s_asg (ed_tupleL (ed_L (el_lcAX (xs := x0) (ea := fun x => Itm.hard (PyData.int x)) (enc := (eP PyData.int PyData.int)) (fb := fun (x2 : Int) => (ixG cards x2)) (ei_tupX (ed_var rfl)) (by rw [sets_row hin]; decide) (by simp) (fun _ _ x2 hx2 => ⟨_, rfl, (eg_name (by simp)), (ed_ixTX (f := (eP PyData.int PyData.int)) (l := cards) (ed_var rfl) (ed_var rfl) (by exact inb (sets_mem hin (by assumption))))⟩)))) (s_le (ρ1 := [.da (PyData.int ranks), .da (PyData.int suits), .da ((eT (eP PyData.int PyData.int)) cards), .no, .da ((eO (eT (eP PyData.int PyData.int))) (bestO cards ((setsF cards.length 5).take i0))), .da ((eT PyData.int) x0), .da ((eT (eP PyData.int PyData.int)) ((x0).map fun (x2 : Int) => (ixG cards x2))), .no]) (le_rfl rfl) ?_))
      refine (s_if (b := (((bestO cards ((setsF cards.length 5).take i0))).isNone || (PySem.W.dataLt ((eP PyData.int (eT PyData.int)) (valF ((((bestO cards ((setsF cards.length 5).take i0))).getD default)))) ((eP PyData.int (eT PyData.int)) (valF (((x0).map fun (x2 : Int) => (ixG cards x2)))))))) (et_or (et_test (ed_is (ed_isN (ed_var rfl)) (by rw [isN_eO (fun _ => rfl)] : _ = PyData.bool ((bestO cards ((setsF cards.length 5).take i0))).isNone))) (fun hb3 => (et_test (ed_cmpD (f := fun d e => PySem.W.dataLt e d) (ed_call (ds := [((eT (eP PyData.int PyData.int)) ((x0).map fun (x2 : Int) => (ixG cards x2)))]) (ea_cons (ed_var rfl) ea_nil) ⟨((x0).map fun (x2 : Int) => (ixG cards x2)), rfl, by rw [List.length_map]; exact sets_row hin, rfl⟩) (ed_call (ds := [((eT (eP PyData.int PyData.int)) (((bestO cards ((setsF cards.length 5).take i0))).getD default))]) (ea_cons (ed_is (ed_var rfl) (eO_get (f := (eT (eP PyData.int PyData.int))) (by first | exact some_a (by assumption) | exact some_b (by assumption)) : _ = ((eT (eP PyData.int PyData.int)) (((bestO cards ((setsF cards.length 5).take i0))).getD default)))) ea_nil) ⟨(((bestO cards ((setsF cards.length 5).take i0))).getD default), rfl, by exact best_len (by assumption), rfl⟩) (by exact wv_al _ _) (by intro h; cases h) (by exact wv_depth _))))) (fun hc1 => ?_) (fun hc1 => ?_))
      · refine (s_asg (ed_is (ed_var rfl) (rfl : _ = ((eO (eT (eP PyData.int PyData.int))) (some ((x0).map fun (x2 : Int) => (ixG cards x2)))))) (s_le (ρ1 := [.da (PyData.int ranks), .da (PyData.int suits), .da ((eT (eP PyData.int PyData.int)) cards), .no, .da ((eO (eT (eP PyData.int PyData.int))) (some ((x0).map fun (x2 : Int) => (ixG cards x2)))), .da ((eT PyData.int) x0), .da ((eT (eP PyData.int PyData.int)) ((x0).map fun (x2 : Int) => (ixG cards x2))), .no]) (le_rfl rfl) ?_))
        exact s_end (le_same (le_same (le_same (le_no (le_da (by first | exact congrArg (eO (eT (eP PyData.int PyData.int))) (bs_yes hx0 hc1) | exact congrArg (eO (eT (eP PyData.int PyData.int))) (bs_no hx0 hc1)) (le_no (le_no (le_no le_nil))))))))
      · refine s_next ?_
        exact s_end (le_same (le_same (le_same (le_no (le_da (by first | exact congrArg (eO (eT (eP PyData.int PyData.int))) (bs_yes hx0 hc1) | exact congrArg (eO (eT (eP PyData.int PyData.int))) (bs_no hx0 hc1)) (le_no (le_no (le_no le_nil))))))))
    exact s_ret (ed_is (ed_var rfl) (by rw [List.take_length]; exact eO_get (best_some h2) : ((eO (eT (eP PyData.int PyData.int))) (bestO cards ((setsF cards.length 5).take ((setsF (((cards).length : Int)) 5)).length))) = ((eT (eP PyData.int PyData.int)) ((bestO cards (setsF cards.length 5)).getD default)))) hR

/-! ### duel_chance -/
abbrev s_duel_chance : Stmt := topS 28
abbrev N_duel_chance : List Str := ["ranks", "suits", "first", "second", "reason", "held", "card", "left", "counts", "one", "own", "other", "told", "count"]
theorem sc_duel_chance : FnScope N_duel_chance ["ranks", "suits", "first", "second"] (defScope s_duel_chance) := ⟨rfl, rfl, rfl, by decide +kernel, rfl, by decide +kernel, by decide +kernel⟩
def R_duel_chance : List PyData → PyData → Prop := fun ds d => ∃ (ranks : Int) (suits : Int) (first : (List (Int × Int))) (second : (List (Int × Int))), ds = [(PyData.int ranks), (PyData.int suits), ((eT (eP PyData.int PyData.int)) first), ((eT (eP PyData.int PyData.int)) second)] ∧ (PackOk ranks suits) ∧ (CardsOk ranks suits first ∧ first.length = 4) ∧ (CardsOk ranks suits second ∧ second.length = 4) ∧ (∀ c ∈ first, c ∉ second) ∧ (2 ≤ (restL (packL ranks suits) first second).length) ∧ d = ((eT eQ) (duelF first second (restL (packL ranks suits) first second)))
set_option maxHeartbeats 4000000 in
theorem ok_duel_chance {P : Program} {w : World} {K : PySem.W.Frag} {mg : Str → Option Value} {base : Heap} (B : Gb K mg) (F : Fd K mg "duel_chance" s_duel_chance) (C_all_cards : Cl P w K mg base 1 "all_cards" ["ranks", "suits"] (SpP K R_all_cards)) (C_are_cards : Cl P w K mg base 3 "are_cards" ["ranks", "suits", "value", "many"] (SpP K R_are_cards)) (C_check_pack : Cl P w K mg base 2 "check_pack" ["ranks", "suits"] (SpP K R_check_pack)) (C_quotient : Cl P w K mg base 2 "quotient" ["up", "down"] (SpP K R_quotient)) (C_worth : Cl P w K mg base 3 "worth" ["hand"] (SpP K R_worth)) : Cl P w K mg base 4 "duel_chance" ["ranks", "suits", "first", "second"] (SpP K R_duel_chance) := by
  have BG := B
  obtain ⟨f, fd, F, hm⟩ := F.ex
  refine ⟨f, fd, fnG_of (k := 3) F sc_duel_chance (spP_len fun ds d h => ?_) (fun cdv A outer s H hr hgd => ⟨_, (pss_cons (ps_expr (pe_cl C_check_pack (hr.mono (by decide)) hgd (by rfl) (pa_cons (pv 0) (pa_cons (pv 1) pa_nil)))) (pss_cons (ps_for PassesOwn.never rfl (pi_tup (pe_tupF (pa_cons (pe_tupF (pa_cons pe_str (pa_cons (pv 2) pa_nil))) (pa_cons (pe_tupF (pa_cons pe_str (pa_cons (pv 3) pa_nil))) pa_nil)))) (pg_tup rfl (pgs_cons (pg_name (i := 4) sc_duel_chance.nd rfl (Or.inl rfl)) (pgs_cons (pg_name (i := 5) sc_duel_chance.nd rfl (Or.inl rfl)) pgs_nil))) (pss_one (ps_if (pt_not (pt_truth (pe_cl C_are_cards (hr.mono (by decide)) hgd (by rfl) (pa_cons (pv 0) (pa_cons (pv 1) (pa_cons (pv 5) (pa_cons pe_int pa_nil))))) (fun _ => rfl))) pss_never pss_nil))) (pss_cons (ps_if (pt_truth (pe_lc (own := [("card", 6)]) (g := _) (tt := _) rfl sc_duel_chance.nd (pi_tup (pv 2)) (blkOk_by (N := N_duel_chance) (sc := defScope s_duel_chance) (by decide +kernel)) (fun _ _ _ _ _ => (pg_name (i := 6) sc_duel_chance.nd rfl (by first | exact Or.inl rfl | exact Or.inr rfl))) (fun _ _ _ _ _ => (pts_one (pt_cmpR (r := rInT K false) (op_inTD (room65 hr)) (pv 6) (pv 3) (by rfl)))) (fun _ _ _ _ _ => pe_int)) (fun _ => rfl)) pss_never pss_nil) (pss_cons (ps_set (i := 7) sc_duel_chance.nd rfl (Or.inr rfl) (pe_lc (own := [("card", 6)]) (g := _) (tt := _) rfl sc_duel_chance.nd (pi_list (pe_cl C_all_cards (hr.mono (by decide)) hgd (by rfl) (pa_cons (pv 0) (pa_cons (pv 1) pa_nil)))) (blkOk_by (N := N_duel_chance) (sc := defScope s_duel_chance) (by decide +kernel)) (fun _ _ _ _ _ => (pg_name (i := 6) sc_duel_chance.nd rfl (by first | exact Or.inl rfl | exact Or.inr rfl))) (fun _ _ _ _ _ => (pts_one (PW.pt (pw_and (pt_cmpR (r := rInT K true) (op_ninTD (room65 hr)) (pv 6) (pv 2) (by rfl)) (pw_and1 (pt_cmpR (r := rInT K true) (op_ninTD (room65 hr)) (pv 6) (pv 3) (by rfl))))))) (fun _ _ _ _ _ => (pv 6)))) (pss_cons (ps_set (i := 8) sc_duel_chance.nd rfl (Or.inl rfl) (pe_lst (pa_cons pe_int (pa_cons pe_int (pa_cons pe_int pa_nil))))) (pss_cons (ps_if (pt_cmpR op_lt (pe_callB (r := rLenS K) call_len_seq (by rfl) B.len_ PySem.boot_len (pa_cons (pv 7) pa_nil)) pe_int (nomark _)) pss_never pss_nil) (pss_cons (ps_for PassesOwn.never rfl (pi_list (pv 7)) (pg_name (i := 9) sc_duel_chance.nd rfl (Or.inl rfl)) (pss_cons (ps_set (i := 10) sc_duel_chance.nd rfl (Or.inl rfl) (pe_cl C_worth (hr.mono (by decide)) hgd (by rfl) (pa_cons (pe_callTy (r := rTupOf K) call_tupleF (by rfl) B.tuple_ PyProof.Rows.boot_tuple (pa_cons (pe_callB (r := rSortXT K (eP PyData.int PyData.int)) (cr_sortedXT (Nat.lt_of_le_of_lt (Nat.add_le_add_left (by decide : 64 ≤ 64) _) hr.units)) (by rfl) B.sorted_ (by decide +kernel) (pa_cons (pe_op (r := rCatF K) op_catF (pv 2) (pe_tupF (pa_cons (pv 9) pa_nil))) pa_nil)) pa_nil)) pa_nil))) (pss_one (ps_for PassesOwn.never rfl (pi_list (pv 7)) (pg_name (i := 11) sc_duel_chance.nd rfl (Or.inl rfl)) (pss_one (ps_if (pt_cmpR (r := rNeD K) (op_neD hr.units) (pv 11) (pv 9) (nomark _)) (pss_cons (ps_set (i := 12) sc_duel_chance.nd rfl (Or.inl rfl) (pe_cl C_worth (hr.mono (by decide)) hgd (by rfl) (pa_cons (pe_callTy (r := rTupOf K) call_tupleF (by rfl) B.tuple_ PyProof.Rows.boot_tuple (pa_cons (pe_callB (r := rSortXT K (eP PyData.int PyData.int)) (cr_sortedXT (Nat.lt_of_le_of_lt (Nat.add_le_add_left (by decide : 64 ≤ 64) _) hr.units)) (by rfl) B.sorted_ (by decide +kernel) (pa_cons (pe_op (r := rCatF K) op_catF (pv 3) (pe_tupF (pa_cons (pv 11) pa_nil))) pa_nil)) pa_nil)) pa_nil))) (pss_one (ps_augS (pv 8) (pe_ifExp (pt_cmpR (r := rCmpD K (fun d e => PySem.W.dataLt e d)) (op_gtD hr.units) (pv 10) (pv 12) (nomark _)) pe_int (pe_ifExp (pt_cmpR (r := rEqD K) (op_eqD hr.units) (pv 10) (pv 12) (nomark _)) pe_int pe_int)) get_listG pe_int ip_add set_list (fun _ _ _ => rfl)))) pss_nil)))))) (pss_one (ps_ret (pe_callTy (r := rTupOf K) call_tupleF (by rfl) B.tuple_ PyProof.Rows.boot_tuple (pa_cons (pe_lc (own := [("count", 13)]) (g := _) (tt := tYes) rfl sc_duel_chance.nd (pi_list (pv 8)) (blkOk_by (N := N_duel_chance) (sc := defScope s_duel_chance) (by decide +kernel)) (fun _ _ _ _ _ => (pg_name (i := 13) sc_duel_chance.nd rfl (by first | exact Or.inl rfl | exact Or.inr rfl))) (fun _ _ _ _ _ => pts_nil) (fun _ _ _ _ _ => (pe_cl C_quotient (hr.mono (by decide)) hgd (by rfl) (pa_cons (pv 13) (pa_cons (pe_op op_mulG (pe_callB (r := rLenS K) call_len_seq (by rfl) B.len_ PySem.boot_len (pa_cons (pv 7) pa_nil)) (pe_op op_sub (pe_callB (r := rLenS K) call_len_seq (by rfl) B.len_ PySem.boot_len (pa_cons (pv 7) pa_nil)) pe_int)) pa_nil))))) pa_nil))))))))))), fun vs Q => fn_pure (N := N_duel_chance) (fun ds d h => ?_) (fun B S ds d h D hR hN => ?_) vs H Q E0⟩), hm, F.kp, F.binds fun _ _ _ _ _ _ us hl => match us, hl with | [_, _, _, _], _ => rfl⟩
  · obtain ⟨ranks, suits, first, second, rfl, h0, h1, h2, h3, h4, rfl⟩ := h; rfl
  · obtain ⟨ranks, suits, first, second, rfl, h0, h1, h2, h3, h4, rfl⟩ := h; simp
  · obtain ⟨ranks, suits, first, second, rfl, h0, h1, h2, h3, h4, rfl⟩ := h
    show Ss _ _ [.da (PyData.int ranks), .da (PyData.int suits), .da ((eT (eP PyData.int PyData.int)) first), .da ((eT (eP PyData.int PyData.int)) second), .no, .no, .no, .no, .no, .no, .no, .no, .no, .no] _ _
    refine s_seq (s_drop (ed_call (ds := [(PyData.int ranks), (PyData.int suits)]) (ea_cons (ed_var rfl) (ea_cons (ed_var rfl) ea_nil)) ⟨ranks, suits, rfl, by assumption, rfl⟩) ?_)
    refine s_seq (s_forX ([((((Str.ofString "first"), first), ((Str.ofString "second"), second))).1, ((((Str.ofString "first"), first), ((Str.ofString "second"), second))).2]) (fun x => Itm.hard ((eP PyData.str (eT (eP PyData.int PyData.int))) x)) (ei_tupX (ed_is (ed_tup (ds := [((eP PyData.str (eT (eP PyData.int PyData.int))) ((Str.ofString "first"), first)), ((eP PyData.str (eT (eP PyData.int PyData.int))) ((Str.ofString "second"), second))]) (ea_cons (ed_tup (ds := [(PyData.str (Str.ofString "first")), ((eT (eP PyData.int PyData.int)) first)]) (ea_cons ed_str (ea_cons (ed_var rfl) ea_nil))) (ea_cons (ed_tup (ds := [(PyData.str (Str.ofString "second")), ((eT (eP PyData.int PyData.int)) second)]) (ea_cons ed_str (ea_cons (ed_var rfl) ea_nil))) ea_nil))) (rfl : _ = ((eT (eP PyData.str (eT (eP PyData.int PyData.int)))) [((((Str.ofString "first"), first), ((Str.ofString "second"), second))).1, ((((Str.ofString "first"), first), ((Str.ofString "second"), second))).2])))) (fun i0 => [.da (PyData.int ranks), .da (PyData.int suits), .da ((eT (eP PyData.int PyData.int)) first), .da ((eT (eP PyData.int PyData.int)) second), .no, .no, .no, .no, .no, .no, .no, .no, .no, .no]) (le_same (le_same (le_same (le_same (le_no (le_no (le_no (le_no (le_no (le_no (le_no (le_no (le_no (le_no le_nil)))))))))))))) (fun T0 hT0 i0 x0 hx0 => ⟨_, [4, 5], (eg_tup (egs_cons (eg_name (by simp)) (egs_cons (eg_name (by simp)) egs_nil))), ?_⟩) ?_)
    · show Ss _ _ [.da (PyData.int ranks), .da (PyData.int suits), .da ((eT (eP PyData.int PyData.int)) first), .da ((eT (eP PyData.int PyData.int)) second), .da (PyData.str (x0).1), .da ((eT (eP PyData.int PyData.int)) (x0).2), .no, .no, .no, .no, .no, .no, .no, .no] _ _
      have hx : CardsOk ranks suits x0.2 ∧ x0.2.length = 4 := or_sub (P := fun p : Str × List Card => CardsOk ranks suits p.2 ∧ p.2.length = 4) (mem2 (List.mem_of_getElem? hx0)) h1 h2
      refine (s_skip (et_not (et_truB (ed_call (ds := [(PyData.int ranks), (PyData.int suits), ((eT (eP PyData.int PyData.int)) (x0).2), (PyData.int (4 : Int))]) (ea_cons (ed_var rfl) (ea_cons (ed_var rfl) (ea_cons (ed_var rfl) (ea_cons ed_int ea_nil)))) ⟨ranks, suits, (x0).2, (4 : Int), rfl, by omega, by exact hx.1, rfl⟩))) (by simp [hx.2] : (!(decide ((((x0).2).length : Int) = ((4 : Int))))) = false) ?_)
      exact s_end (le_same (le_same (le_same (le_same (le_no (le_no (le_no (le_no (le_no (le_no (le_no (le_no (le_no (le_no le_nil))))))))))))))
    refine s_seq (s_skip (et_truL (ed_L (el_lcPX (xs := first) (ea := fun x => Itm.hard ((eP PyData.int PyData.int) x)) (p := fun (x1 : (Int × Int)) => (decide (x1 ∈ second))) (enc := PyData.int) (fb := fun (x1 : (Int × Int)) => (1 : Int)) (ei_tupX (ed_var rfl)) (by rw [h1.2]; decide) (by simp) (fun _ _ x1 hx1 => ⟨_, rfl, (eg_name (by simp)), (et_test (ed_is (ed_inTD (neg := false) (ed_var rfl) (ed_var rfl) (by first | exact sh_of (f := eT (eP PyData.int PyData.int)) _ | exact sh_of (f := eP PyData.int PyData.int) _ | exact sh_of (f := eP PyData.int (eT PyData.int)) _) (by first | exact sh_of (f := eT (eP PyData.int PyData.int)) _ | exact sh_of (f := eP PyData.int PyData.int) _ | exact sh_of (f := eP PyData.int (eT PyData.int)) _)) (by exact (in_data (f := (eP PyData.int PyData.int)) _ _).trans (by congr) : _ = PyData.bool (decide (x1 ∈ second))))), fun hp2 => ed_int⟩)))) (by exact none_of h3 : (!((((first).filter fun (x1 : (Int × Int)) => (decide (x1 ∈ second))).map fun (x1 : (Int × Int)) => (1 : Int))).isEmpty) = false) ?_)
    obtain ⟨left_v, h_left_v⟩ : ∃ z : (List (Int × Int)), z = ((((packL (ranks) (suits))).filter fun (x3 : (Int × Int)) => ((!decide (x3 ∈ first)) && (!decide (x3 ∈ second)))).map fun (x3 : (Int × Int)) => x3) := ⟨_, rfl⟩
    refine s_seq (s_asg (ed_L (el_lcPX (xs := (packL (ranks) (suits))) (ea := fun x => Itm.hard ((eP PyData.int PyData.int) x)) (p := fun (x3 : (Int × Int)) => ((!decide (x3 ∈ first)) && (!decide (x3 ∈ second)))) (enc := (eP PyData.int PyData.int)) (fb := fun (x3 : (Int × Int)) => x3) (ei_listX (ed_call (ds := [(PyData.int ranks), (PyData.int suits)]) (ea_cons (ed_var rfl) (ea_cons (ed_var rfl) ea_nil)) ⟨ranks, suits, rfl, by assumption, rfl⟩)) (by exact Nat.le_trans (packL_sz h0) (by decide)) (by simp) (fun _ _ x3 hx3 => ⟨_, rfl, (eg_name (by simp)), (et_and (et_test (ed_is (ed_inTD (neg := true) (ed_var rfl) (ed_var rfl) (by first | exact sh_of (f := eT (eP PyData.int PyData.int)) _ | exact sh_of (f := eP PyData.int PyData.int) _ | exact sh_of (f := eP PyData.int (eT PyData.int)) _) (by first | exact sh_of (f := eT (eP PyData.int PyData.int)) _ | exact sh_of (f := eP PyData.int PyData.int) _ | exact sh_of (f := eP PyData.int (eT PyData.int)) _)) (by exact (nin_data (f := (eP PyData.int PyData.int)) _ _).trans (by congr) : _ = PyData.bool (!decide (x3 ∈ first))))) (fun hb4 => (et_test (ed_is (ed_inTD (neg := true) (ed_var rfl) (ed_var rfl) (by first | exact sh_of (f := eT (eP PyData.int PyData.int)) _ | exact sh_of (f := eP PyData.int PyData.int) _ | exact sh_of (f := eP PyData.int (eT PyData.int)) _) (by first | exact sh_of (f := eT (eP PyData.int PyData.int)) _ | exact sh_of (f := eP PyData.int PyData.int) _ | exact sh_of (f := eP PyData.int (eT PyData.int)) _)) (by exact (nin_data (f := (eP PyData.int PyData.int)) _ _).trans (by congr) : _ = PyData.bool (!decide (x3 ∈ second))))))), fun hp5 => (ed_var rfl)⟩))) (s_le (ρ1 := [.da (PyData.int ranks), .da (PyData.int suits), .da ((eT (eP PyData.int PyData.int)) first), .da ((eT (eP PyData.int PyData.int)) second), .no, .no, .no, .da ((eL (eP PyData.int PyData.int)) left_v), .no, .no, .no, .no, .no, .no]) (le_rfl (by subst h_left_v; rfl)) ?_))
    have hl : left_v = restL (packL ranks suits) first second := h_left_v.trans (rest_eq _ _ _)
    have hl2 : 2 ≤ left_v.length := hl ▸ h4
    have hl3 : left_v.length ≤ 78 := hl ▸ rest_sz h0 _ _
    refine s_seq (s_asgM (ds := ([(0 : Int), (0 : Int), (0 : Int)]).map PyData.int) (el_lst (ds := [(0 : Int), (0 : Int), (0 : Int)].map PyData.int) (ea_cons ed_int (ea_cons ed_int (ea_cons ed_int ea_nil)))) (fun p_counts6 => s_le (ρ1 := [.da (PyData.int ranks), .da (PyData.int suits), .da ((eT (eP PyData.int PyData.int)) first), .da ((eT (eP PyData.int PyData.int)) second), .no, .no, .no, .da ((eL (eP PyData.int PyData.int)) left_v), .mu true p_counts6 (.lst ([(0 : Int), (0 : Int), (0 : Int)].map PyData.int)), .no, .no, .no, .no, .no]) (le_rfl rfl) ?_))
    refine s_seq (s_skip (et_test (ed_B0 (ed_lenLX (ed_var rfl)) ed_int)) (by exact decide_eq_false (by omega) : (decide (((left_v).length : Int) < (2 : Int))) = false) ?_)
    refine s_seq (s_forX (left_v) (fun x => Itm.hard ((eP PyData.int PyData.int) x)) (ei_listX (ed_var rfl)) (fun i1 => [.da (PyData.int ranks), .da (PyData.int suits), .da ((eT (eP PyData.int PyData.int)) first), .da ((eT (eP PyData.int PyData.int)) second), .no, .no, .no, .da ((eL (eP PyData.int PyData.int)) left_v), .mu true p_counts6 (.lst ((duelO first second left_v (left_v.take i1)).map PyData.int)), .no, .no, .no, .no, .no]) (le_same (le_same (le_same (le_same (le_no (le_no (le_no (le_same (le_mu (congrArg MO.lst (by rfl)) (le_no (le_no (le_no (le_no (le_no le_nil)))))))))))))) (fun T1 hT1 i1 x1 hx1 => ⟨_, [9], (eg_name (by simp)), ?_⟩) ?_)
    · show Ss _ _ [.da (PyData.int ranks), .da (PyData.int suits), .da ((eT (eP PyData.int PyData.int)) first), .da ((eT (eP PyData.int PyData.int)) second), .no, .no, .no, .da ((eL (eP PyData.int PyData.int)) left_v), .mu true p_counts6 (.lst ((duelO first second left_v (left_v.take i1)).map PyData.int)), .da ((eP PyData.int PyData.int) x1), .no, .no, .no, .no] _ _
      refine s_seq (s_asg (ed_call (ds := [((eT (eP PyData.int PyData.int)) (sortX (eP PyData.int PyData.int) (first ++ [x1])))]) (ea_cons (ed_tupleL (ed_L (el_sortXT (enc := (eP PyData.int PyData.int)) (ed_catT (f := (eP PyData.int PyData.int)) (l := first) (m := [x1]) (ed_var rfl) (ed_tup (ds := [((eP PyData.int PyData.int) x1)]) (ea_cons (ed_var rfl) ea_nil)) (by first | (rw [h1.2]; simp) | (rw [h2.2]; simp))) (by first | exact pi_al _ | exact wv_al _ _) (by exact pi_so _) (by exact fun p _ => card_depth p)))) ea_nil) ⟨(sortX (eP PyData.int PyData.int) (first ++ [x1])), rfl, by exact sort5 h1.2 _, rfl⟩) (s_le (ρ1 := [.da (PyData.int ranks), .da (PyData.int suits), .da ((eT (eP PyData.int PyData.int)) first), .da ((eT (eP PyData.int PyData.int)) second), .no, .no, .no, .da ((eL (eP PyData.int PyData.int)) left_v), .mu true p_counts6 (.lst ((duelO first second left_v (left_v.take i1)).map PyData.int)), .da ((eP PyData.int PyData.int) x1), .da ((eP PyData.int (eT PyData.int)) (valF ((sortX (eP PyData.int PyData.int) (first ++ [x1]))))), .no, .no, .no]) (le_rfl rfl) ?_))
      refine (s_forX (left_v) (fun x => Itm.hard ((eP PyData.int PyData.int) x)) (ei_listX (ed_var rfl)) (fun i2 => [.da (PyData.int ranks), .da (PyData.int suits), .da ((eT (eP PyData.int PyData.int)) first), .da ((eT (eP PyData.int PyData.int)) second), .no, .no, .no, .da ((eL (eP PyData.int PyData.int)) left_v), .mu true p_counts6 (.lst ((duelI first second x1 (duelO first second left_v (left_v.take i1)) (left_v.take i2)).map PyData.int)), .da ((eP PyData.int PyData.int) x1), .da ((eP PyData.int (eT PyData.int)) (valF ((sortX (eP PyData.int PyData.int) (first ++ [x1]))))), .no, .no, .no]) (le_same (le_same (le_same (le_same (le_no (le_no (le_no (le_same (le_mu (congrArg MO.lst (by rfl)) (le_same (le_same (le_no (le_no (le_no le_nil)))))))))))))) (fun T2 hT2 i2 x2 hx2 => ⟨_, [11], (eg_name (by simp)), ?_⟩) ?_)
      · show Ss _ _ [.da (PyData.int ranks), .da (PyData.int suits), .da ((eT (eP PyData.int PyData.int)) first), .da ((eT (eP PyData.int PyData.int)) second), .no, .no, .no, .da ((eL (eP PyData.int PyData.int)) left_v), .mu true p_counts6 (.lst ((duelI first second x1 (duelO first second left_v (left_v.take i1)) (left_v.take i2)).map PyData.int)), .da ((eP PyData.int PyData.int) x1), .da ((eP PyData.int (eT PyData.int)) (valF ((sortX (eP PyData.int PyData.int) (first ++ [x1]))))), .da ((eP PyData.int PyData.int) x2), .no, .no] _ _
        refine (s_if (b := (!PyData.eqv ((eP PyData.int PyData.int) x2) ((eP PyData.int PyData.int) x1))) (et_test (ed_ne (ed_var rfl) (ed_var rfl) (by first | exact sh_of (f := eT (eP PyData.int PyData.int)) _ | exact sh_of (f := eP PyData.int PyData.int) _ | exact sh_of (f := eP PyData.int (eT PyData.int)) _) (by first | exact sh_of (f := eT (eP PyData.int PyData.int)) _ | exact sh_of (f := eP PyData.int PyData.int) _ | exact sh_of (f := eP PyData.int (eT PyData.int)) _))) (fun hc3 => ?_) (fun hc3 => ?_))
        · refine s_seq (s_asg (ed_call (ds := [((eT (eP PyData.int PyData.int)) (sortX (eP PyData.int PyData.int) (second ++ [x2])))]) (ea_cons (ed_tupleL (ed_L (el_sortXT (enc := (eP PyData.int PyData.int)) (ed_catT (f := (eP PyData.int PyData.int)) (l := second) (m := [x2]) (ed_var rfl) (ed_tup (ds := [((eP PyData.int PyData.int) x2)]) (ea_cons (ed_var rfl) ea_nil)) (by first | (rw [h1.2]; simp) | (rw [h2.2]; simp))) (by first | exact pi_al _ | exact wv_al _ _) (by exact pi_so _) (by exact fun p _ => card_depth p)))) ea_nil) ⟨(sortX (eP PyData.int PyData.int) (second ++ [x2])), rfl, by exact sort5 h2.2 _, rfl⟩) (s_le (ρ1 := [.da (PyData.int ranks), .da (PyData.int suits), .da ((eT (eP PyData.int PyData.int)) first), .da ((eT (eP PyData.int PyData.int)) second), .no, .no, .no, .da ((eL (eP PyData.int PyData.int)) left_v), .mu true p_counts6 (.lst ((duelI first second x1 (duelO first second left_v (left_v.take i1)) (left_v.take i2)).map PyData.int)), .da ((eP PyData.int PyData.int) x1), .da ((eP PyData.int (eT PyData.int)) (valF ((sortX (eP PyData.int PyData.int) (first ++ [x1]))))), .da ((eP PyData.int PyData.int) x2), .da ((eP PyData.int (eT PyData.int)) (valF ((sortX (eP PyData.int PyData.int) (second ++ [x2]))))), .no]) (le_rfl rfl) ?_))
          refine (s_augSX (ed_ite (e := PyData.int) (et_test (ed_cmpD (f := fun d e => PySem.W.dataLt e d) (ed_var rfl) (ed_var rfl) (by first | exact pi_al _ | exact wv_al _ _) (by intro h; cases h) (by exact wv_depth _))) (fun hb7 => ed_int) (fun hb7 => (ed_ite (e := PyData.int) (et_test (ed_eq (ed_var rfl) (ed_var rfl) (by first | exact sh_of (f := eT (eP PyData.int PyData.int)) _ | exact sh_of (f := eP PyData.int PyData.int) _ | exact sh_of (f := eP PyData.int (eT PyData.int)) _) (by first | exact sh_of (f := eT (eP PyData.int PyData.int)) _ | exact sh_of (f := eP PyData.int PyData.int) _ | exact sh_of (f := eP PyData.int (eT PyData.int)) _))) (fun hb8 => ed_int) (fun hb8 => ed_int)))) ed_int ⟨_, _, rfl⟩ rfl rfl (by rw [duelI_len, duelO_len, cls_eq]; exact cls_rng _ _) (s_le (ρ1 := [.da (PyData.int ranks), .da (PyData.int suits), .da ((eT (eP PyData.int PyData.int)) first), .da ((eT (eP PyData.int PyData.int)) second), .no, .no, .no, .da ((eL (eP PyData.int PyData.int)) left_v), .mu true p_counts6 (.lst (((duelI first second x1 (duelO first second left_v (left_v.take i1)) (left_v.take i2)).set ((if (PySem.W.dataLt ((eP PyData.int (eT PyData.int)) (valF ((sortX (eP PyData.int PyData.int) (second ++ [x2]))))) ((eP PyData.int (eT PyData.int)) (valF ((sortX (eP PyData.int PyData.int) (first ++ [x1])))))) = true then (0 : Int) else (if (PyData.eqv ((eP PyData.int (eT PyData.int)) (valF ((sortX (eP PyData.int PyData.int) (first ++ [x1]))))) ((eP PyData.int (eT PyData.int)) (valF ((sortX (eP PyData.int PyData.int) (second ++ [x2])))))) = true then (1 : Int) else (2 : Int)))).toNat (ixG (duelI first second x1 (duelO first second left_v (left_v.take i1)) (left_v.take i2)) (if (PySem.W.dataLt ((eP PyData.int (eT PyData.int)) (valF ((sortX (eP PyData.int PyData.int) (second ++ [x2]))))) ((eP PyData.int (eT PyData.int)) (valF ((sortX (eP PyData.int PyData.int) (first ++ [x1])))))) = true then (0 : Int) else (if (PyData.eqv ((eP PyData.int (eT PyData.int)) (valF ((sortX (eP PyData.int PyData.int) (first ++ [x1]))))) ((eP PyData.int (eT PyData.int)) (valF ((sortX (eP PyData.int PyData.int) (second ++ [x2])))))) = true then (1 : Int) else (2 : Int))) + (1 : Int))).map PyData.int)), .da ((eP PyData.int PyData.int) x1), .da ((eP PyData.int (eT PyData.int)) (valF ((sortX (eP PyData.int PyData.int) (first ++ [x1]))))), .da ((eP PyData.int PyData.int) x2), .da ((eP PyData.int (eT PyData.int)) (valF ((sortX (eP PyData.int PyData.int) (second ++ [x2]))))), .no]) (le_same (le_same (le_same (le_same (le_same (le_same (le_same (le_same (le_mu (congrArg MO.lst (by simp)) (le_same (le_same (le_same (le_same (le_same le_nil)))))))))))))) ?_))
          exact s_end (le_same (le_same (le_same (le_same (le_no (le_no (le_no (le_same (le_mu (congrArg MO.lst (by first | exact congrArg (List.map PyData.int) (du_yes hx2 hc3 (cls_eq _ _)) | exact congrArg (List.map PyData.int) (du_no hx2 hc3))) (le_same (le_same (le_no (le_no (le_no le_nil))))))))))))))
        · refine s_next ?_
          exact s_end (le_same (le_same (le_same (le_same (le_no (le_no (le_no (le_same (le_mu (congrArg MO.lst (by first | exact congrArg (List.map PyData.int) (du_yes hx2 hc3 (cls_eq _ _)) | exact congrArg (List.map PyData.int) (du_no hx2 hc3))) (le_same (le_same (le_no (le_no (le_no le_nil))))))))))))))
      exact s_end (le_same (le_same (le_same (le_same (le_no (le_no (le_no (le_same (le_mu (congrArg MO.lst (by exact congrArg (List.map PyData.int) (du_out hx1))) (le_no (le_no (le_no (le_no (le_no le_nil))))))))))))))
    refine s_le (ρ1 := [.da (PyData.int ranks), .da (PyData.int suits), .da ((eT (eP PyData.int PyData.int)) first), .da ((eT (eP PyData.int PyData.int)) second), .no, .no, .no, .da ((eL (eP PyData.int PyData.int)) left_v), .da ((eL PyData.int) (duelO first second left_v (left_v.take (left_v).length))), .no, .no, .no, .no, .no]) (le_same (le_same (le_same (le_same (le_no (le_no (le_no (le_same (le_frz (le_no (le_no (le_no (le_no (le_no le_nil)))))))))))))) ?_
    exact s_ret (ed_is (ed_tupleL (ed_L (el_lcAX (xs := (duelO first second left_v (left_v.take (left_v).length))) (ea := fun x => Itm.hard (PyData.int x)) (enc := eQ) (fb := fun (x9 : Int) => (Rat.divInt (x9) ((((left_v).length : Int) * (((left_v).length : Int) - (1 : Int)))))) (ei_listX (ed_var rfl)) (by rw [duelO_len]; decide) (by simp) (fun _ _ x9 hx9 => ⟨_, rfl, (eg_name (by simp)), (ed_call (ds := [(PyData.int x9), (PyData.int (((left_v).length : Int) * (((left_v).length : Int) - (1 : Int))))]) (ea_cons (ed_var rfl) (ea_cons (ed_I (ed_lenLX (ed_var rfl)) (ed_I0 (ed_lenLX (ed_var rfl)) ed_int) (by exact mul_r (by omega) (by omega))) ea_nil)) ⟨x9, (((left_v).length : Int) * (((left_v).length : Int) - (1 : Int))), rfl, by exact two_nz hl2, by exact two_lt hl2 hl3, rfl⟩)⟩)))) (by rw [List.take_length, hl]; rfl : ((eT eQ) (((duelO first second left_v (left_v.take (left_v).length))).map fun (x9 : Int) => (Rat.divInt (x9) ((((left_v).length : Int) * (((left_v).length : Int) - (1 : Int))))))) = ((eT eQ) (duelF first second (restL (packL ranks suits) first second))))) hR

/-! ### _law_q -/
abbrev s_law_q : Stmt := topS 34
abbrev N_law_q : List Str := ["up", "down", "one", "other"]
theorem sc_law_q : FnScope N_law_q ["up", "down"] (defScope s_law_q) := ⟨rfl, rfl, rfl, by decide +kernel, rfl, by decide +kernel, by decide +kernel⟩
def R_law_q : List PyData → PyData → Prop := fun ds d => ∃ (up : Int) (down : Int), ds = [(PyData.int up), (PyData.int down)] ∧ (down ≠ 0) ∧ (down.natAbs < 2 ^ 8999) ∧ d = (eQ (Rat.divInt up down))
set_option maxHeartbeats 4000000 in
theorem ok_law_q {P : Program} {w : World} {K : PySem.W.Frag} {mg : Str → Option Value} {base : Heap} (B : Gb K mg) (F : Fd K mg "_law_q" s_law_q) : Cl P w K mg base 1 "_law_q" ["up", "down"] (SpP K R_law_q) := by
  have BG := B
  obtain ⟨f, fd, F, hm⟩ := F.ex
  refine ⟨f, fd, fnG_of (k := 0) F sc_law_q (spP_len fun ds d h => ?_) (fun cdv A outer s H hr hgd => ⟨_, (pss_cons (ps_par (i := 2) (j := 3) rfl sc_law_q.nd rfl rfl (by decide) rfl rfl (pa_cons (pe_callB call_abs (by rfl) B.abs_ PyProof.Rows.boot_abs (pa_cons (pv 0) pa_nil)) (pa_cons (pe_callB call_abs (by rfl) B.abs_ PyProof.Rows.boot_abs (pa_cons (pv 1) pa_nil)) pa_nil)) rfl rfl) (pss_cons (ps_while PassesOwn.never (pt_cmpR op_gt (pv 3) pe_int (nomark _)) (pss_one (ps_par (i := 2) (j := 3) rfl sc_law_q.nd rfl rfl (by decide) rfl rfl (pa_cons (pv 3) (pa_cons (pe_op op_mod (pe_callTy call_int1 (by rfl) B.int_ PyProof.Rows.boot_int (pa_cons (pv 2) pa_nil)) (pe_callTy call_int1 (by rfl) B.int_ PyProof.Rows.boot_int (pa_cons (pv 3) pa_nil))) pa_nil)) rfl rfl))) (pss_one (ps_ret (pe_ifExp (pt_cmpR op_gt (pv 1) pe_int (nomark _)) (pe_tupF (pa_cons (pe_op op_fdivG (pv 0) (pv 2)) (pa_cons (pe_op op_fdivG (pv 1) (pv 2)) pa_nil))) (pe_tupF (pa_cons (pe_op op_fdivG (pe_op op_sub pe_int (pv 0)) (pv 2)) (pa_cons (pe_op op_fdivG (pe_op op_sub pe_int (pv 1)) (pv 2)) pa_nil)))))))), fun vs Q => fn_pure (N := N_law_q) (fun ds d h => ?_) (fun B S ds d h D hR hN => ?_) vs H Q E0⟩), hm, F.kp, F.binds fun _ _ _ _ _ _ us hl => match us, hl with | [_, _], _ => rfl⟩
  · obtain ⟨up, down, rfl, h0, h1, rfl⟩ := h; rfl
  · obtain ⟨up, down, rfl, h0, h1, rfl⟩ := h; simp
  · obtain ⟨up, down, rfl, h0, h1, rfl⟩ := h
    show Ss _ _ [.da (PyData.int up), .da (PyData.int down), .no, .no] _ _
    refine s_seq (s_par (ea_cons (ed_abs (ed_var rfl)) (ea_cons (ed_abs (ed_var rfl)) ea_nil)) (s_le (ρ1 := [.da (PyData.int up), .da (PyData.int down), .da (PyData.int ((up).natAbs : Int)), .da (PyData.int ((down).natAbs : Int))]) (le_rfl rfl) ?_))
    refine s_seq (s_while (α := Nat × Nat) (fun a => [.da (PyData.int up), .da (PyData.int down), .da (PyData.int (a.1 : Int)), .da (PyData.int (a.2 : Int))]) (fun a => Nat.gcd a.1 a.2 = Nat.gcd up.natAbs down.natAbs) (fun a => a.2) ((up.natAbs, down.natAbs)) (by rfl) (le_same (le_same (le_da (by rfl) (le_da (by rfl) le_nil)))) (fun a hP => ⟨_, _, (et_test (ed_B0 (ed_var rfl) ed_int)), fun hb => ?_, fun hb => ?_⟩))
    · refine (s_par (ea_cons (ed_var rfl) (ea_cons (ed_I (ed_intI (ed_var rfl)) (ed_intI (ed_var rfl)) (by have := of_decide_eq_true hb; omega)) ea_nil)) (s_le (ρ1 := [.da (PyData.int up), .da (PyData.int down), .da (PyData.int (a.2 : Int)), .da (PyData.int ((a.1 : Int) % (a.2 : Int)))]) (le_rfl rfl) ?_))
      exact s_endW ((a.2, a.1 % a.2)) (by exact (gcd_turn a.1 a.2).trans hP) (by have := of_decide_eq_true hb; exact Nat.mod_lt _ (by omega)) (le_same (le_same (le_da (by rfl) (le_da (by rfl) le_nil))))
    · exact s_ret (ed_is (ed_ite (e := eQ) (et_test (ed_B0 (ed_var rfl) ed_int)) (fun hb1 => (ed_is (ed_tup (ds := [(PyData.int (up / (a.1 : Int))), (PyData.int (down / (a.1 : Int)))]) (ea_cons (ed_I (ed_var rfl) (ed_var rfl) (by exact lawq_div h0 h1 hP hb)) (ea_cons (ed_I (ed_var rfl) (ed_var rfl) (by exact lawq_div h0 h1 hP hb)) ea_nil))) (by exact lawq_pos hP hb (by assumption) : _ = (eQ (Rat.divInt up down))))) (fun hb1 => (ed_is (ed_tup (ds := [(PyData.int (((0 : Int) - up) / (a.1 : Int))), (PyData.int (((0 : Int) - down) / (a.1 : Int)))]) (ea_cons (ed_I (ed_I0 ed_int (ed_var rfl)) (ed_var rfl) (by exact lawq_div h0 h1 hP hb)) (ea_cons (ed_I (ed_I0 ed_int (ed_var rfl)) (ed_var rfl) (by exact lawq_div h0 h1 hP hb)) ea_nil))) (by exact lawq_neg hP hb h0 (by assumption) : _ = (eQ (Rat.divInt up down)))))) (by rw [ite_self] : (eQ (if (decide ((0 : Int) < down)) = true then (Rat.divInt up down) else (Rat.divInt up down))) = (eQ (Rat.divInt up down)))) hR

/-! ### _law_choose -/
abbrev s_law_choose : Stmt := topS 35
abbrev N_law_choose : List Str := ["many", "few", "found", "k"]
theorem sc_law_choose : FnScope N_law_choose ["many", "few"] (defScope s_law_choose) := ⟨rfl, rfl, rfl, by decide +kernel, rfl, by decide +kernel, by decide +kernel⟩
def R_law_choose : List PyData → PyData → Prop := fun ds d => ∃ (many : Int) (few : Int), ds = [(PyData.int many), (PyData.int few)] ∧ (0 ≤ many ∧ many ≤ 4000) ∧ (few ≤ 4000 ∧ -4000 ≤ few) ∧ d = (PyData.int (chI many few))
set_option maxHeartbeats 4000000 in
theorem ok_law_choose {P : Program} {w : World} {K : PySem.W.Frag} {mg : Str → Option Value} {base : Heap} (B : Gb K mg) (F : Fd K mg "_law_choose" s_law_choose) : Cl P w K mg base 1 "_law_choose" ["many", "few"] (SpP K R_law_choose) := by
  have BG := B
  obtain ⟨f, fd, F, hm⟩ := F.ex
  refine ⟨f, fd, fnG_of (k := 0) F sc_law_choose (spP_len fun ds d h => ?_) (fun cdv A outer s H hr hgd => ⟨_, (pss_cons (ps_set (i := 2) sc_law_choose.nd rfl (Or.inl rfl) pe_int) (pss_cons (ps_for PassesOwn.never rfl (pi_range1 (by rfl) B.range_ (pa_cons (pv 1) pa_nil)) (pg_name (i := 3) sc_law_choose.nd rfl (Or.inl rfl)) (pss_one (ps_set (i := 2) sc_law_choose.nd rfl (Or.inl rfl) (pe_op op_fdivG (pe_op op_mulG (pv 2) (pe_op op_sub (pv 0) (pv 3))) (pe_op op_add (pv 3) pe_int))))) (pss_one (ps_ret (pe_ifExp (pt_chain op_le op_le pe_int (pv 1) (pv 0)) (pv 2) pe_int))))), fun vs Q => fn_pure (N := N_law_choose) (fun ds d h => ?_) (fun B S ds d h D hR hN => ?_) vs H Q E0⟩), hm, F.kp, F.binds fun _ _ _ _ _ _ us hl => match us, hl with | [_, _], _ => rfl⟩
  · obtain ⟨many, few, rfl, h0, h1, rfl⟩ := h; rfl
  · obtain ⟨many, few, rfl, h0, h1, rfl⟩ := h; simp
  · obtain ⟨many, few, rfl, h0, h1, rfl⟩ := h
    show Ss _ _ [.da (PyData.int many), .da (PyData.int few), .no, .no] _ _
    refine s_seq (s_asg ed_int (s_le (ρ1 := [.da (PyData.int many), .da (PyData.int few), .da (PyData.int (1 : Int)), .no]) (le_rfl rfl) ?_))
    refine s_seq (s_forX ((List.range (few).toNat)) (fun (i : Nat) => Itm.hard (PyData.int (i : Int))) (ei_rng (ed_var rfl) (by omega)) (fun i0 => [.da (PyData.int many), .da (PyData.int few), .da (PyData.int ((bin many.toNat (i0) : Nat) : Int)), .no]) (le_same (le_same (le_da (by rw [bin_zero]; rfl) (le_no le_nil)))) (fun T0 hT0 i0 x0 hx0 => ⟨_, [3], (eg_name (by simp)), ?_⟩) ?_)
    · show Ss _ _ [.da (PyData.int many), .da (PyData.int few), .da (PyData.int ((bin many.toNat (i0) : Nat) : Int)), .da (PyData.int (x0 : Int))] _ _
      have hlt0 := (rng_get hx0).2
      refine s_le (ρ1 := [.da (PyData.int many), .da (PyData.int few), .da (PyData.int ((bin many.toNat (i0) : Nat) : Int)), .da (PyData.int (i0 : Int))]) (le_rfl (by rw [(rng_get hx0).1])) ?_
      refine (s_asg (ed_I (ed_I (ed_var rfl) (ed_I0 (ed_var rfl) (ed_var rfl)) (by first | assumption | exact mul_l (by omega) (by omega) | exact mul_r (by omega) (by omega))) (ed_I0 (ed_var rfl) ed_int) (by exact div_small (by omega) (by omega))) (s_le (ρ1 := [.da (PyData.int many), .da (PyData.int few), .da (PyData.int ((((bin many.toNat (i0) : Nat) : Int) * (many - (i0 : Int))) / ((i0 : Int) + (1 : Int)))), .da (PyData.int (i0 : Int))]) (le_rfl rfl) ?_))
      exact s_end (le_same (le_same (le_da (by exact congrArg PyData.int (bin_stepJ h0.1)) (le_no le_nil))))
    exact s_ret (ed_is (ed_ite (e := PyData.int) (et_chain (ed_chain ed_int (ed_var rfl) (fun hb1 => (ed_var rfl)))) (fun hb2 => (ed_var rfl)) (fun hb2 => ed_int)) (by exact lawch_ret h0.1 : (PyData.int (if (decide ((0 : Int) ≤ few) && decide (few ≤ many)) = true then ((bin many.toNat (((List.range (few).toNat)).length) : Nat) : Int) else (0 : Int))) = (PyData.int (chI many few)))) hR

/-! ### _law_same -/
abbrev s_law_same : Stmt := topS 33
abbrev N_law_same : List Str := ["actual", "due"]
theorem sc_law_same : FnScope N_law_same ["actual", "due"] (defScope s_law_same) := ⟨rfl, rfl, rfl, by decide +kernel, rfl, by decide +kernel, by decide +kernel⟩
def R_law_same : List PyData → PyData → Prop := fun ds d => ∃ (actual : PyData) (due : PyData), ds = [actual, due] ∧ (actual = due) ∧ (Gd 20 15000000 actual) ∧ d = (PyData.bool (true))
set_option maxHeartbeats 4000000 in
theorem ok_law_same {P : Program} {w : World} {K : PySem.W.Frag} {mg : Str → Option Value} {base : Heap} (B : Gb K mg) (F : Fd K mg "_law_same" s_law_same) : Cl P w K mg base 1 "_law_same" ["actual", "due"] (SpP K R_law_same) := by
  have BG := B
  obtain ⟨f, fd, F, hm⟩ := F.ex
  refine ⟨f, fd, fnG_of (k := 0) F sc_law_same (spP_len fun ds d h => ?_) (fun cdv A outer s H hr hgd => ⟨_, (pss_one (ps_ret (pe_and (pe_cmpR (r := rEqD K) (op_eqD hr.units) (pv 0) (pv 1) (nomark _)) (pe_one (pe_cmpR op_eq (pe_callB (r := rRepr K) (call_repr hgd (Nat.lt_of_le_of_lt (Nat.add_le_add_left (by decide : 61 ≤ 64) _) hr.units)) (by rfl) B.repr_ (by decide +kernel) (pa_cons (pv 0) pa_nil)) (pe_callB (r := rRepr K) (call_repr hgd (Nat.lt_of_le_of_lt (Nat.add_le_add_left (by decide : 61 ≤ 64) _) hr.units)) (by rfl) B.repr_ (by decide +kernel) (pa_cons (pv 1) pa_nil)) (nomark _)))))), fun vs Q => fn_pure (N := N_law_same) (fun ds d h => ?_) (fun B S ds d h D hR hN => ?_) vs H Q E0⟩), hm, F.kp, F.binds fun _ _ _ _ _ _ us hl => match us, hl with | [_, _], _ => rfl⟩
  · obtain ⟨actual, due, rfl, h0, h1, rfl⟩ := h; rfl
  · obtain ⟨actual, due, rfl, h0, h1, rfl⟩ := h; simp
  · obtain ⟨actual, due, rfl, h0, h1, rfl⟩ := h
    show Ss _ _ [.da actual, .da due] _ _
    exact s_ret (ed_is (ed_and (ed_eq (ed_var rfl) (ed_var rfl) (by exact gd_shaped h1) (by exact gd_shaped (h0 ▸ h1))) (fun hb1 => (ed_eqS (ed_repr (ed_var rfl) (by exact gd_show h1)) (ed_repr (ed_var rfl) (by exact gd_show (h0 ▸ h1)))))) (by exact same_ret h0 h1 : (PyData.bool ((PyData.eqv actual due) && (decide ((PyData.shown actual) = (PyData.shown due))))) = (PyData.bool (true)))) hR

/-! ### _law_sorts -/
abbrev s_law_sorts : Stmt := topS 36
abbrev N_law_sorts : List Str := []
theorem sc_law_sorts : FnScope N_law_sorts [] (defScope s_law_sorts) := ⟨rfl, rfl, rfl, by decide +kernel, rfl, by decide +kernel, by decide +kernel⟩
def R_law_sorts : List PyData → PyData → Prop := fun ds d => ds = [] ∧ d = ((eL PyData.str) (sortNames))
set_option maxHeartbeats 4000000 in
theorem ok_law_sorts {P : Program} {w : World} {K : PySem.W.Frag} {mg : Str → Option Value} {base : Heap} (B : Gb K mg) (F : Fd K mg "_law_sorts" s_law_sorts) : Cl P w K mg base 1 "_law_sorts" [] (SpP K R_law_sorts) := by
  have BG := B
  obtain ⟨f, fd, F, hm⟩ := F.ex
  refine ⟨f, fd, fnG_of (k := 0) F sc_law_sorts (spP_len fun ds d h => ?_) (fun cdv A outer s H hr hgd => ⟨_, (pss_one (ps_ret (pe_lst (pa_cons pe_str (pa_cons pe_str (pa_cons pe_str (pa_cons pe_str (pa_cons pe_str (pa_cons pe_str (pa_cons pe_str (pa_cons pe_str (pa_cons pe_str pa_nil)))))))))))), fun vs Q => fn_pure (N := N_law_sorts) (fun ds d h => ?_) (fun B S ds d h D hR hN => ?_) vs H Q E0⟩), hm, F.kp, F.binds fun _ _ _ _ _ _ us hl => match us, hl with | [], _ => rfl⟩
  · obtain ⟨rfl, rfl⟩ := h; rfl
  · obtain ⟨rfl, rfl⟩ := h; simp
  · obtain ⟨rfl, rfl⟩ := h
    show Ss _ _ [] _ _
    exact s_ret (ed_is (ed_L (el_lst (ds := [(Str.ofString "high"), (Str.ofString "pair"), (Str.ofString "pairs"), (Str.ofString "three"), (Str.ofString "row"), (Str.ofString "suit"), (Str.ofString "house"), (Str.ofString "four"), (Str.ofString "both")].map PyData.str) (ea_cons ed_str (ea_cons ed_str (ea_cons ed_str (ea_cons ed_str (ea_cons ed_str (ea_cons ed_str (ea_cons ed_str (ea_cons ed_str (ea_cons ed_str ea_nil))))))))))) (by rfl : ((eL PyData.str) [(Str.ofString "high"), (Str.ofString "pair"), (Str.ofString "pairs"), (Str.ofString "three"), (Str.ofString "row"), (Str.ofString "suit"), (Str.ofString "house"), (Str.ofString "four"), (Str.ofString "both")]) = ((eL PyData.str) (sortNames)))) hR

/-! ### _law_counts -/
abbrev s_law_counts : Stmt := topS 37
abbrev N_law_counts : List Str := ["ranks", "suits", "one", "two", "three", "four", "k", "five", "rows", "whole", "pair", "pairs", "triple", "house", "equal", "both", "row", "suit"]
theorem sc_law_counts : FnScope N_law_counts ["ranks", "suits"] (defScope s_law_counts) := ⟨rfl, rfl, rfl, by decide +kernel, rfl, by decide +kernel, by decide +kernel⟩
def R_law_counts : List PyData → PyData → Prop := fun ds d => ∃ (ranks : Int) (suits : Int), ds = [(PyData.int ranks), (PyData.int suits)] ∧ (PackOk ranks suits) ∧ d = (eI9 (lawF ranks suits))
set_option maxHeartbeats 4000000 in
theorem ok_law_counts {P : Program} {w : World} {K : PySem.W.Frag} {mg : Str → Option Value} {base : Heap} (B : Gb K mg) (F : Fd K mg "_law_counts" s_law_counts) (C_law_choose : Cl P w K mg base 1 "_law_choose" ["many", "few"] (SpP K R_law_choose)) : Cl P w K mg base 2 "_law_counts" ["ranks", "suits"] (SpP K R_law_counts) := by
  have BG := B
  obtain ⟨f, fd, F, hm⟩ := F.ex
  refine ⟨f, fd, fnG_of (k := 1) F sc_law_counts (spP_len fun ds d h => ?_) (fun cdv A outer s H hr hgd => ⟨_, (pss_cons (ps_asg (pe_lc (own := [("k", 6)]) (g := _) (tt := tYes) rfl sc_law_counts.nd (pi_range2 (by rfl) B.range_ (pa_cons pe_int (pa_cons pe_int pa_nil))) (blkOk_by (N := N_law_counts) (sc := defScope s_law_counts) (by decide +kernel)) (fun _ _ _ _ _ => (pg_name (i := 6) sc_law_counts.nd rfl (by first | exact Or.inl rfl | exact Or.inr rfl))) (fun _ _ _ _ _ => pts_nil) (fun _ _ _ _ _ => (pe_cl C_law_choose (hr.mono (by decide)) hgd (by rfl) (pa_cons (pv 1) (pa_cons (pv 6) pa_nil))))) (pg_unl rfl (pgs_cons (pg_name (i := 2) sc_law_counts.nd rfl (Or.inl rfl)) (pgs_cons (pg_name (i := 3) sc_law_counts.nd rfl (Or.inl rfl)) (pgs_cons (pg_name (i := 4) sc_law_counts.nd rfl (Or.inl rfl)) (pgs_cons (pg_name (i := 5) sc_law_counts.nd rfl (Or.inl rfl)) pgs_nil))))) rfl) (pss_cons (ps_par (i := 7) (j := 8) rfl sc_law_counts.nd rfl rfl (by decide) rfl rfl (pa_cons (pe_cl C_law_choose (hr.mono (by decide)) hgd (by rfl) (pa_cons (pv 1) (pa_cons pe_int pa_nil))) (pa_cons (pe_callB (r := rMaxT K) (cr_maxT rfl) (by rfl) B.max_ (by decide +kernel) (pa_cons (pe_lst (pa_cons pe_int (pa_cons (pe_op op_sub (pv 0) pe_int) pa_nil))) pa_nil)) pa_nil)) rfl rfl) (pss_cons (ps_set (i := 9) sc_law_counts.nd rfl (Or.inl rfl) (pe_op op_mulG (pe_op op_mulG (pe_op op_mulG (pe_op op_mulG (pe_op op_mulG (pe_cl C_law_choose (hr.mono (by decide)) hgd (by rfl) (pa_cons (pv 0) (pa_cons pe_int pa_nil))) (pv 2)) (pv 2)) (pv 2)) (pv 2)) (pv 2))) (pss_cons (ps_set (i := 10) sc_law_counts.nd rfl (Or.inl rfl) (pe_op op_mulG (pe_op op_mulG (pe_op op_mulG (pe_op op_mulG (pe_op op_mulG (pv 0) (pv 3)) (pe_cl C_law_choose (hr.mono (by decide)) hgd (by rfl) (pa_cons (pe_op op_sub (pv 0) pe_int) (pa_cons pe_int pa_nil)))) (pv 2)) (pv 2)) (pv 2))) (pss_cons (ps_set (i := 11) sc_law_counts.nd rfl (Or.inl rfl) (pe_op op_mulG (pe_op op_mulG (pe_op op_mulG (pe_op op_mulG (pe_cl C_law_choose (hr.mono (by decide)) hgd (by rfl) (pa_cons (pv 0) (pa_cons pe_int pa_nil))) (pv 3)) (pv 3)) (pe_op op_sub (pv 0) pe_int)) (pv 2))) (pss_cons (ps_set (i := 12) sc_law_counts.nd rfl (Or.inl rfl) (pe_op op_mulG (pe_op op_mulG (pe_op op_mulG (pe_op op_mulG (pv 0) (pv 4)) (pe_cl C_law_choose (hr.mono (by decide)) hgd (by rfl) (pa_cons (pe_op op_sub (pv 0) pe_int) (pa_cons pe_int pa_nil)))) (pv 2)) (pv 2))) (pss_cons (ps_par (i := 13) (j := 14) rfl sc_law_counts.nd rfl rfl (by decide) rfl rfl (pa_cons (pe_op op_mulG (pe_op op_mulG (pe_op op_mulG (pv 0) (pv 4)) (pe_op op_sub (pv 0) pe_int)) (pv 3)) (pa_cons (pe_op op_add (pe_op op_mulG (pe_op op_mulG (pe_op op_mulG (pv 0) (pv 5)) (pe_op op_sub (pv 0) pe_int)) (pv 2)) (pe_op op_mulG (pv 0) (pv 7))) pa_nil)) rfl rfl) (pss_cons (ps_set (i := 15) sc_law_counts.nd rfl (Or.inl rfl) (pe_op op_mulG (pv 8) (pv 1))) (pss_cons (ps_par (i := 16) (j := 17) rfl sc_law_counts.nd rfl rfl (by decide) rfl rfl (pa_cons (pe_op op_sub (pe_op op_mulG (pe_op op_mulG (pe_op op_mulG (pe_op op_mulG (pe_op op_mulG (pv 8) (pv 2)) (pv 2)) (pv 2)) (pv 2)) (pv 2)) (pv 15)) (pa_cons (pe_op op_sub (pe_op op_mulG (pe_cl C_law_choose (hr.mono (by decide)) hgd (by rfl) (pa_cons (pv 0) (pa_cons pe_int pa_nil))) (pv 1)) (pv 15)) pa_nil)) rfl rfl) (pss_one (ps_ret (pe_tupF (pa_cons (pe_op op_sub (pe_op op_sub (pe_op op_sub (pv 9) (pv 16)) (pv 17)) (pv 15)) (pa_cons (pv 10) (pa_cons (pv 11) (pa_cons (pv 12) (pa_cons (pv 16) (pa_cons (pv 17) (pa_cons (pv 13) (pa_cons (pv 14) (pa_cons (pv 15) pa_nil))))))))))))))))))))), fun vs Q => fn_pure (N := N_law_counts) (fun ds d h => ?_) (fun B S ds d h D hR hN => ?_) vs H Q E0⟩), hm, F.kp, F.binds fun _ _ _ _ _ _ us hl => match us, hl with | [_, _], _ => rfl⟩
  · obtain ⟨ranks, suits, rfl, h0, rfl⟩ := h; rfl
  · obtain ⟨ranks, suits, rfl, h0, rfl⟩ := h; simp
  · obtain ⟨ranks, suits, rfl, h0, rfl⟩ := h
    obtain ⟨⟨hr1, hr2⟩, hs1, hs2⟩ := h0
    have hc0 := chI_sm (n := suits) 1 (by omega)
    have hc1 := chI_sm (n := suits) 4 (by omega)
    have hc2 := chI_sm (n := suits) 5 (by omega)
    have hc3 := chI_sm (n := suits) 3 (by omega)
    have hc4 := chI_sm (n := suits) 2 (by omega)
    have hc5 := chI_sm (n := ranks) 5 (by omega)
    have hc6 := chI_sm (n := ranks) 2 (by omega)
    have hc7 := chI_sm (n := ranks - 1) 2 (by omega)
    have hc8 := chI_sm (n := ranks - 1) 3 (by omega)
    show Ss _ _ [.da (PyData.int ranks), .da (PyData.int suits), .no, .no, .no, .no, .no, .no, .no, .no, .no, .no, .no, .no, .no, .no, .no, .no] _ _
    refine s_seq (s_asgG (ws := [2, 3, 4, 5]) (ed_is (ed_L (el_lcAX (xs := (rngX (1 : Int) (5 : Int))) (ea := fun (i : Int) => Itm.hard (PyData.int i)) (enc := PyData.int) (fb := fun (x1 : Int) => (chI (suits) (x1))) (ei_rngX2 ed_int ed_int (by omega)) (by decide) (by simp) (fun _ _ x1 hx1 => ⟨_, rfl, (eg_name (by simp)), (ed_call (ds := [(PyData.int suits), (PyData.int x1)]) (ea_cons (ed_var rfl) (ea_cons (ed_var rfl) ea_nil)) ⟨suits, x1, rfl, by omega, by first | decide | (have := rng_memX (by assumption); omega) | omega, rfl⟩)⟩))) (by exact unl4 _ : _ = ((eL PyData.int) [chI suits 1, chI suits 2, chI suits 3, chI suits 4]))) (eg_lst (egs_cons (eg_name (by simp)) (egs_cons (eg_name (by simp)) (egs_cons (eg_name (by simp)) (egs_cons (eg_name (by simp)) egs_nil))))) (s_le (ρ1 := [.da (PyData.int ranks), .da (PyData.int suits), .da (PyData.int (chI suits 1)), .da (PyData.int (chI suits 2)), .da (PyData.int (chI suits 3)), .da (PyData.int (chI suits 4)), .no, .no, .no, .no, .no, .no, .no, .no, .no, .no, .no, .no]) (le_rfl rfl) ?_))
    refine s_seq (s_par (ea_cons (ed_call (ds := [(PyData.int suits), (PyData.int (5 : Int))]) (ea_cons (ed_var rfl) (ea_cons ed_int ea_nil)) ⟨suits, (5 : Int), rfl, by omega, by first | decide | (have := rng_memX (by assumption); omega) | omega, rfl⟩) (ea_cons (ed_is (ed_maxL (ed_L (el_lst (ds := [(0 : Int), (ranks - (4 : Int))].map PyData.int) (ea_cons ed_int (ea_cons (ed_I0 (ed_var rfl) ed_int) ea_nil)))) (by simp)) (by exact congrArg PyData.int max_rows : _ = (PyData.int (if ranks - 4 > 0 then ranks - 4 else 0)))) ea_nil)) (s_le (ρ1 := [.da (PyData.int ranks), .da (PyData.int suits), .da (PyData.int (chI suits 1)), .da (PyData.int (chI suits 2)), .da (PyData.int (chI suits 3)), .da (PyData.int (chI suits 4)), .no, .da (PyData.int (chI (suits) ((5 : Int)))), .da (PyData.int (if ranks - 4 > 0 then ranks - 4 else 0)), .no, .no, .no, .no, .no, .no, .no, .no, .no]) (le_rfl rfl) ?_))
    refine s_seq (s_asg (ed_I (ed_I (ed_I (ed_I (ed_I (ed_call (ds := [(PyData.int ranks), (PyData.int (5 : Int))]) (ea_cons (ed_var rfl) (ea_cons ed_int ea_nil)) ⟨ranks, (5 : Int), rfl, by omega, by first | decide | (have := rng_memX (by assumption); omega) | omega, rfl⟩) (ed_var rfl) (by first | exact mul_r (by omega) (by omega) | exact mul_l (by omega) (by omega) | exact mul_l (by split <;> omega) (by split <;> omega))) (ed_var rfl) (by first | exact mul_r (by omega) (by omega) | exact mul_l (by omega) (by omega) | exact mul_l (by split <;> omega) (by split <;> omega))) (ed_var rfl) (by first | exact mul_r (by omega) (by omega) | exact mul_l (by omega) (by omega) | exact mul_l (by split <;> omega) (by split <;> omega))) (ed_var rfl) (by first | exact mul_r (by omega) (by omega) | exact mul_l (by omega) (by omega) | exact mul_l (by split <;> omega) (by split <;> omega))) (ed_var rfl) (by first | exact mul_r (by omega) (by omega) | exact mul_l (by omega) (by omega) | exact mul_l (by split <;> omega) (by split <;> omega))) (s_le (ρ1 := [.da (PyData.int ranks), .da (PyData.int suits), .da (PyData.int (chI suits 1)), .da (PyData.int (chI suits 2)), .da (PyData.int (chI suits 3)), .da (PyData.int (chI suits 4)), .no, .da (PyData.int (chI (suits) ((5 : Int)))), .da (PyData.int (if ranks - 4 > 0 then ranks - 4 else 0)), .da (PyData.int ((((((chI (ranks) ((5 : Int))) * chI suits 1) * chI suits 1) * chI suits 1) * chI suits 1) * chI suits 1)), .no, .no, .no, .no, .no, .no, .no, .no]) (le_rfl rfl) ?_))
    refine s_seq (s_asg (ed_I (ed_I (ed_I (ed_I (ed_I (ed_var rfl) (ed_var rfl) (by first | exact mul_r (by omega) (by omega) | exact mul_l (by omega) (by omega) | exact mul_l (by split <;> omega) (by split <;> omega))) (ed_call (ds := [(PyData.int (ranks - (1 : Int))), (PyData.int (3 : Int))]) (ea_cons (ed_I0 (ed_var rfl) ed_int) (ea_cons ed_int ea_nil)) ⟨(ranks - (1 : Int)), (3 : Int), rfl, by omega, by first | decide | (have := rng_memX (by assumption); omega) | omega, rfl⟩) (by first | exact mul_r (by omega) (by omega) | exact mul_l (by omega) (by omega) | exact mul_l (by split <;> omega) (by split <;> omega))) (ed_var rfl) (by first | exact mul_r (by omega) (by omega) | exact mul_l (by omega) (by omega) | exact mul_l (by split <;> omega) (by split <;> omega))) (ed_var rfl) (by first | exact mul_r (by omega) (by omega) | exact mul_l (by omega) (by omega) | exact mul_l (by split <;> omega) (by split <;> omega))) (ed_var rfl) (by first | exact mul_r (by omega) (by omega) | exact mul_l (by omega) (by omega) | exact mul_l (by split <;> omega) (by split <;> omega))) (s_le (ρ1 := [.da (PyData.int ranks), .da (PyData.int suits), .da (PyData.int (chI suits 1)), .da (PyData.int (chI suits 2)), .da (PyData.int (chI suits 3)), .da (PyData.int (chI suits 4)), .no, .da (PyData.int (chI (suits) ((5 : Int)))), .da (PyData.int (if ranks - 4 > 0 then ranks - 4 else 0)), .da (PyData.int ((((((chI (ranks) ((5 : Int))) * chI suits 1) * chI suits 1) * chI suits 1) * chI suits 1) * chI suits 1)), .da (PyData.int (((((ranks * chI suits 2) * (chI ((ranks - (1 : Int))) ((3 : Int)))) * chI suits 1) * chI suits 1) * chI suits 1)), .no, .no, .no, .no, .no, .no, .no]) (le_rfl rfl) ?_))
    refine s_seq (s_asg (ed_I (ed_I (ed_I (ed_I (ed_call (ds := [(PyData.int ranks), (PyData.int (2 : Int))]) (ea_cons (ed_var rfl) (ea_cons ed_int ea_nil)) ⟨ranks, (2 : Int), rfl, by omega, by first | decide | (have := rng_memX (by assumption); omega) | omega, rfl⟩) (ed_var rfl) (by first | exact mul_r (by omega) (by omega) | exact mul_l (by omega) (by omega) | exact mul_l (by split <;> omega) (by split <;> omega))) (ed_var rfl) (by first | exact mul_r (by omega) (by omega) | exact mul_l (by omega) (by omega) | exact mul_l (by split <;> omega) (by split <;> omega))) (ed_I0 (ed_var rfl) ed_int) (by first | exact mul_r (by omega) (by omega) | exact mul_l (by omega) (by omega) | exact mul_l (by split <;> omega) (by split <;> omega))) (ed_var rfl) (by first | exact mul_r (by omega) (by omega) | exact mul_l (by omega) (by omega) | exact mul_l (by split <;> omega) (by split <;> omega))) (s_le (ρ1 := [.da (PyData.int ranks), .da (PyData.int suits), .da (PyData.int (chI suits 1)), .da (PyData.int (chI suits 2)), .da (PyData.int (chI suits 3)), .da (PyData.int (chI suits 4)), .no, .da (PyData.int (chI (suits) ((5 : Int)))), .da (PyData.int (if ranks - 4 > 0 then ranks - 4 else 0)), .da (PyData.int ((((((chI (ranks) ((5 : Int))) * chI suits 1) * chI suits 1) * chI suits 1) * chI suits 1) * chI suits 1)), .da (PyData.int (((((ranks * chI suits 2) * (chI ((ranks - (1 : Int))) ((3 : Int)))) * chI suits 1) * chI suits 1) * chI suits 1)), .da (PyData.int (((((chI (ranks) ((2 : Int))) * chI suits 2) * chI suits 2) * (ranks - (2 : Int))) * chI suits 1)), .no, .no, .no, .no, .no, .no]) (le_rfl rfl) ?_))
    refine s_seq (s_asg (ed_I (ed_I (ed_I (ed_I (ed_var rfl) (ed_var rfl) (by first | exact mul_r (by omega) (by omega) | exact mul_l (by omega) (by omega) | exact mul_l (by split <;> omega) (by split <;> omega))) (ed_call (ds := [(PyData.int (ranks - (1 : Int))), (PyData.int (2 : Int))]) (ea_cons (ed_I0 (ed_var rfl) ed_int) (ea_cons ed_int ea_nil)) ⟨(ranks - (1 : Int)), (2 : Int), rfl, by omega, by first | decide | (have := rng_memX (by assumption); omega) | omega, rfl⟩) (by first | exact mul_r (by omega) (by omega) | exact mul_l (by omega) (by omega) | exact mul_l (by split <;> omega) (by split <;> omega))) (ed_var rfl) (by first | exact mul_r (by omega) (by omega) | exact mul_l (by omega) (by omega) | exact mul_l (by split <;> omega) (by split <;> omega))) (ed_var rfl) (by first | exact mul_r (by omega) (by omega) | exact mul_l (by omega) (by omega) | exact mul_l (by split <;> omega) (by split <;> omega))) (s_le (ρ1 := [.da (PyData.int ranks), .da (PyData.int suits), .da (PyData.int (chI suits 1)), .da (PyData.int (chI suits 2)), .da (PyData.int (chI suits 3)), .da (PyData.int (chI suits 4)), .no, .da (PyData.int (chI (suits) ((5 : Int)))), .da (PyData.int (if ranks - 4 > 0 then ranks - 4 else 0)), .da (PyData.int ((((((chI (ranks) ((5 : Int))) * chI suits 1) * chI suits 1) * chI suits 1) * chI suits 1) * chI suits 1)), .da (PyData.int (((((ranks * chI suits 2) * (chI ((ranks - (1 : Int))) ((3 : Int)))) * chI suits 1) * chI suits 1) * chI suits 1)), .da (PyData.int (((((chI (ranks) ((2 : Int))) * chI suits 2) * chI suits 2) * (ranks - (2 : Int))) * chI suits 1)), .da (PyData.int ((((ranks * chI suits 3) * (chI ((ranks - (1 : Int))) ((2 : Int)))) * chI suits 1) * chI suits 1)), .no, .no, .no, .no, .no]) (le_rfl rfl) ?_))
    refine s_seq (s_par (ea_cons (ed_I (ed_I (ed_I (ed_var rfl) (ed_var rfl) (by first | exact mul_r (by omega) (by omega) | exact mul_l (by omega) (by omega) | exact mul_l (by split <;> omega) (by split <;> omega))) (ed_I0 (ed_var rfl) ed_int) (by first | exact mul_r (by omega) (by omega) | exact mul_l (by omega) (by omega) | exact mul_l (by split <;> omega) (by split <;> omega))) (ed_var rfl) (by first | exact mul_r (by omega) (by omega) | exact mul_l (by omega) (by omega) | exact mul_l (by split <;> omega) (by split <;> omega))) (ea_cons (ed_I0 (ed_I (ed_I (ed_I (ed_var rfl) (ed_var rfl) (by first | exact mul_r (by omega) (by omega) | exact mul_l (by omega) (by omega) | exact mul_l (by split <;> omega) (by split <;> omega))) (ed_I0 (ed_var rfl) ed_int) (by first | exact mul_r (by omega) (by omega) | exact mul_l (by omega) (by omega) | exact mul_l (by split <;> omega) (by split <;> omega))) (ed_var rfl) (by first | exact mul_r (by omega) (by omega) | exact mul_l (by omega) (by omega) | exact mul_l (by split <;> omega) (by split <;> omega))) (ed_I (ed_var rfl) (ed_var rfl) (by first | exact mul_r (by omega) (by omega) | exact mul_l (by omega) (by omega) | exact mul_l (by split <;> omega) (by split <;> omega)))) ea_nil)) (s_le (ρ1 := [.da (PyData.int ranks), .da (PyData.int suits), .da (PyData.int (chI suits 1)), .da (PyData.int (chI suits 2)), .da (PyData.int (chI suits 3)), .da (PyData.int (chI suits 4)), .no, .da (PyData.int (chI (suits) ((5 : Int)))), .da (PyData.int (if ranks - 4 > 0 then ranks - 4 else 0)), .da (PyData.int ((((((chI (ranks) ((5 : Int))) * chI suits 1) * chI suits 1) * chI suits 1) * chI suits 1) * chI suits 1)), .da (PyData.int (((((ranks * chI suits 2) * (chI ((ranks - (1 : Int))) ((3 : Int)))) * chI suits 1) * chI suits 1) * chI suits 1)), .da (PyData.int (((((chI (ranks) ((2 : Int))) * chI suits 2) * chI suits 2) * (ranks - (2 : Int))) * chI suits 1)), .da (PyData.int ((((ranks * chI suits 3) * (chI ((ranks - (1 : Int))) ((2 : Int)))) * chI suits 1) * chI suits 1)), .da (PyData.int (((ranks * chI suits 3) * (ranks - (1 : Int))) * chI suits 2)), .da (PyData.int ((((ranks * chI suits 4) * (ranks - (1 : Int))) * chI suits 1) + (ranks * (chI (suits) ((5 : Int)))))), .no, .no, .no]) (le_rfl rfl) ?_))
    refine s_seq (s_asg (ed_I (ed_var rfl) (ed_var rfl) (by first | exact mul_r (by omega) (by omega) | exact mul_l (by omega) (by omega) | exact mul_l (by split <;> omega) (by split <;> omega))) (s_le (ρ1 := [.da (PyData.int ranks), .da (PyData.int suits), .da (PyData.int (chI suits 1)), .da (PyData.int (chI suits 2)), .da (PyData.int (chI suits 3)), .da (PyData.int (chI suits 4)), .no, .da (PyData.int (chI (suits) ((5 : Int)))), .da (PyData.int (if ranks - 4 > 0 then ranks - 4 else 0)), .da (PyData.int ((((((chI (ranks) ((5 : Int))) * chI suits 1) * chI suits 1) * chI suits 1) * chI suits 1) * chI suits 1)), .da (PyData.int (((((ranks * chI suits 2) * (chI ((ranks - (1 : Int))) ((3 : Int)))) * chI suits 1) * chI suits 1) * chI suits 1)), .da (PyData.int (((((chI (ranks) ((2 : Int))) * chI suits 2) * chI suits 2) * (ranks - (2 : Int))) * chI suits 1)), .da (PyData.int ((((ranks * chI suits 3) * (chI ((ranks - (1 : Int))) ((2 : Int)))) * chI suits 1) * chI suits 1)), .da (PyData.int (((ranks * chI suits 3) * (ranks - (1 : Int))) * chI suits 2)), .da (PyData.int ((((ranks * chI suits 4) * (ranks - (1 : Int))) * chI suits 1) + (ranks * (chI (suits) ((5 : Int)))))), .da (PyData.int ((if ranks - 4 > 0 then ranks - 4 else 0) * suits)), .no, .no]) (le_rfl rfl) ?_))
    refine s_seq (s_par (ea_cons (ed_I0 (ed_I (ed_I (ed_I (ed_I (ed_I (ed_var rfl) (ed_var rfl) (by first | exact mul_r (by omega) (by omega) | exact mul_l (by omega) (by omega) | exact mul_l (by split <;> omega) (by split <;> omega))) (ed_var rfl) (by first | exact mul_r (by omega) (by omega) | exact mul_l (by omega) (by omega) | exact mul_l (by split <;> omega) (by split <;> omega))) (ed_var rfl) (by first | exact mul_r (by omega) (by omega) | exact mul_l (by omega) (by omega) | exact mul_l (by split <;> omega) (by split <;> omega))) (ed_var rfl) (by first | exact mul_r (by omega) (by omega) | exact mul_l (by omega) (by omega) | exact mul_l (by split <;> omega) (by split <;> omega))) (ed_var rfl) (by first | exact mul_r (by omega) (by omega) | exact mul_l (by omega) (by omega) | exact mul_l (by split <;> omega) (by split <;> omega))) (ed_var rfl)) (ea_cons (ed_I0 (ed_I (ed_call (ds := [(PyData.int ranks), (PyData.int (5 : Int))]) (ea_cons (ed_var rfl) (ea_cons ed_int ea_nil)) ⟨ranks, (5 : Int), rfl, by omega, by first | decide | (have := rng_memX (by assumption); omega) | omega, rfl⟩) (ed_var rfl) (by first | exact mul_r (by omega) (by omega) | exact mul_l (by omega) (by omega) | exact mul_l (by split <;> omega) (by split <;> omega))) (ed_var rfl)) ea_nil)) (s_le (ρ1 := [.da (PyData.int ranks), .da (PyData.int suits), .da (PyData.int (chI suits 1)), .da (PyData.int (chI suits 2)), .da (PyData.int (chI suits 3)), .da (PyData.int (chI suits 4)), .no, .da (PyData.int (chI (suits) ((5 : Int)))), .da (PyData.int (if ranks - 4 > 0 then ranks - 4 else 0)), .da (PyData.int ((((((chI (ranks) ((5 : Int))) * chI suits 1) * chI suits 1) * chI suits 1) * chI suits 1) * chI suits 1)), .da (PyData.int (((((ranks * chI suits 2) * (chI ((ranks - (1 : Int))) ((3 : Int)))) * chI suits 1) * chI suits 1) * chI suits 1)), .da (PyData.int (((((chI (ranks) ((2 : Int))) * chI suits 2) * chI suits 2) * (ranks - (2 : Int))) * chI suits 1)), .da (PyData.int ((((ranks * chI suits 3) * (chI ((ranks - (1 : Int))) ((2 : Int)))) * chI suits 1) * chI suits 1)), .da (PyData.int (((ranks * chI suits 3) * (ranks - (1 : Int))) * chI suits 2)), .da (PyData.int ((((ranks * chI suits 4) * (ranks - (1 : Int))) * chI suits 1) + (ranks * (chI (suits) ((5 : Int)))))), .da (PyData.int ((if ranks - 4 > 0 then ranks - 4 else 0) * suits)), .da (PyData.int (((((((if ranks - 4 > 0 then ranks - 4 else 0) * chI suits 1) * chI suits 1) * chI suits 1) * chI suits 1) * chI suits 1) - ((if ranks - 4 > 0 then ranks - 4 else 0) * suits))), .da (PyData.int (((chI (ranks) ((5 : Int))) * suits) - ((if ranks - 4 > 0 then ranks - 4 else 0) * suits)))]) (le_rfl rfl) ?_))
    exact s_ret (ed_is (ed_tup (ds := [(PyData.int (((((((((chI (ranks) ((5 : Int))) * chI suits 1) * chI suits 1) * chI suits 1) * chI suits 1) * chI suits 1) - (((((((if ranks - 4 > 0 then ranks - 4 else 0) * chI suits 1) * chI suits 1) * chI suits 1) * chI suits 1) * chI suits 1) - ((if ranks - 4 > 0 then ranks - 4 else 0) * suits))) - (((chI (ranks) ((5 : Int))) * suits) - ((if ranks - 4 > 0 then ranks - 4 else 0) * suits))) - ((if ranks - 4 > 0 then ranks - 4 else 0) * suits))), (PyData.int (((((ranks * chI suits 2) * (chI ((ranks - (1 : Int))) ((3 : Int)))) * chI suits 1) * chI suits 1) * chI suits 1)), (PyData.int (((((chI (ranks) ((2 : Int))) * chI suits 2) * chI suits 2) * (ranks - (2 : Int))) * chI suits 1)), (PyData.int ((((ranks * chI suits 3) * (chI ((ranks - (1 : Int))) ((2 : Int)))) * chI suits 1) * chI suits 1)), (PyData.int (((((((if ranks - 4 > 0 then ranks - 4 else 0) * chI suits 1) * chI suits 1) * chI suits 1) * chI suits 1) * chI suits 1) - ((if ranks - 4 > 0 then ranks - 4 else 0) * suits))), (PyData.int (((chI (ranks) ((5 : Int))) * suits) - ((if ranks - 4 > 0 then ranks - 4 else 0) * suits))), (PyData.int (((ranks * chI suits 3) * (ranks - (1 : Int))) * chI suits 2)), (PyData.int ((((ranks * chI suits 4) * (ranks - (1 : Int))) * chI suits 1) + (ranks * (chI (suits) ((5 : Int)))))), (PyData.int ((if ranks - 4 > 0 then ranks - 4 else 0) * suits))]) (ea_cons (ed_I0 (ed_I0 (ed_I0 (ed_var rfl) (ed_var rfl)) (ed_var rfl)) (ed_var rfl)) (ea_cons (ed_var rfl) (ea_cons (ed_var rfl) (ea_cons (ed_var rfl) (ea_cons (ed_var rfl) (ea_cons (ed_var rfl) (ea_cons (ed_var rfl) (ea_cons (ed_var rfl) (ea_cons (ed_var rfl) ea_nil)))))))))) (by rfl : (eI9 ((((((((((chI (ranks) ((5 : Int))) * chI suits 1) * chI suits 1) * chI suits 1) * chI suits 1) * chI suits 1) - (((((((if ranks - 4 > 0 then ranks - 4 else 0) * chI suits 1) * chI suits 1) * chI suits 1) * chI suits 1) * chI suits 1) - ((if ranks - 4 > 0 then ranks - 4 else 0) * suits))) - (((chI (ranks) ((5 : Int))) * suits) - ((if ranks - 4 > 0 then ranks - 4 else 0) * suits))) - ((if ranks - 4 > 0 then ranks - 4 else 0) * suits)), (((((ranks * chI suits 2) * (chI ((ranks - (1 : Int))) ((3 : Int)))) * chI suits 1) * chI suits 1) * chI suits 1), (((((chI (ranks) ((2 : Int))) * chI suits 2) * chI suits 2) * (ranks - (2 : Int))) * chI suits 1), ((((ranks * chI suits 3) * (chI ((ranks - (1 : Int))) ((2 : Int)))) * chI suits 1) * chI suits 1), (((((((if ranks - 4 > 0 then ranks - 4 else 0) * chI suits 1) * chI suits 1) * chI suits 1) * chI suits 1) * chI suits 1) - ((if ranks - 4 > 0 then ranks - 4 else 0) * suits)), (((chI (ranks) ((5 : Int))) * suits) - ((if ranks - 4 > 0 then ranks - 4 else 0) * suits)), (((ranks * chI suits 3) * (ranks - (1 : Int))) * chI suits 2), ((((ranks * chI suits 4) * (ranks - (1 : Int))) * chI suits 1) + (ranks * (chI (suits) ((5 : Int))))), ((if ranks - 4 > 0 then ranks - 4 else 0) * suits))) = (eI9 (lawF ranks suits)))) hR

/-! ### _law_value -/
abbrev s_law_value : Stmt := topS 38
abbrev N_law_value : List Str := ["hand", "ranks", "rank", "suit", "many", "counts", "suited", "count", "place", "row"]
theorem sc_law_value : FnScope N_law_value ["hand"] (defScope s_law_value) := ⟨rfl, rfl, rfl, by decide +kernel, rfl, by decide +kernel, by decide +kernel⟩
def R_law_value : List PyData → PyData → Prop := fun ds d => ∃ (hand : (List (Int × Int))), ds = [((eT (eP PyData.int PyData.int)) hand)] ∧ (hand.length = 5) ∧ d = ((eP PyData.int (eL PyData.int)) (valF hand))
set_option maxHeartbeats 4000000 in
theorem ok_law_value {P : Program} {w : World} {K : PySem.W.Frag} {mg : Str → Option Value} {base : Heap} (B : Gb K mg) (F : Fd K mg "_law_value" s_law_value) : Cl P w K mg base 1 "_law_value" ["hand"] (SpP K R_law_value) := by
  have BG := B
  obtain ⟨f, fd, F, hm⟩ := F.ex
  refine ⟨f, fd, fnG_of (k := 0) F sc_law_value (spP_len fun ds d h => ?_) (fun cdv A outer s H hr hgd => ⟨_, (pss_cons (ps_set (i := 1) sc_law_value.nd rfl (Or.inr rfl) (pe_lc (own := [("rank", 2), ("suit", 3)]) (g := _) (tt := tYes) rfl sc_law_value.nd (pi_tup (pv 0)) (blkOk_by (N := N_law_value) (sc := defScope s_law_value) (by decide +kernel)) (fun _ _ _ _ _ => (pg_tupB (K := K) (n := 2) rfl rfl (pgs_cons (pg_name (i := 2) sc_law_value.nd rfl (by first | exact Or.inl rfl | exact Or.inr rfl)) (pgs_cons (pg_name (i := 3) sc_law_value.nd rfl (by first | exact Or.inl rfl | exact Or.inr rfl)) pgs_nil)))) (fun _ _ _ _ _ => pts_nil) (fun _ _ _ _ _ => (pv 2)))) (pss_cons (ps_set (i := 4) sc_law_value.nd rfl (Or.inl rfl) (pe_revL (pe_callB (r := rSortX K (eP PyData.int PyData.int)) (cr_sortedX (Nat.lt_of_le_of_lt (Nat.add_le_add_left (by decide : 64 ≤ 64) _) hr.units)) (by rfl) B.sorted_ (by decide +kernel) (pa_cons (pe_lc (own := [("rank", 2)]) (g := _) (tt := tYes) rfl sc_law_value.nd (pi_list (pe_callB (r := rSortedSet w) (cr_sortedSet rfl) (by rfl) B.sorted_ (by decide +kernel) (pa_cons (pe_callTy (r := rSetLI K w) (cr_setLI rfl) (by rfl) B.set_ (by decide +kernel) (pa_cons (pv 1) pa_nil)) pa_nil))) (blkOk_by (N := N_law_value) (sc := defScope s_law_value) (by decide +kernel)) (fun _ _ _ _ _ => (pg_name (i := 2) sc_law_value.nd rfl (by first | exact Or.inl rfl | exact Or.inr rfl))) (fun _ _ _ _ _ => pts_nil) (fun _ _ _ _ _ => (pe_tupF (pa_cons (pe_bmK (K := K) (r := rCntI K) PySem.F.plainAttrs_list PySem.F.slot_list_count PySem.F.type_list_count mt_lcount (pv 1) (pa_cons (pv 2) pa_nil)) (pa_cons (pv 2) pa_nil))))) pa_nil)))) (pss_cons (ps_par (i := 5) (j := 6) rfl sc_law_value.nd rfl rfl (by decide) rfl rfl (pa_cons (pe_lc (own := [("count", 7), ("rank", 2)]) (g := _) (tt := tYes) rfl sc_law_value.nd (pi_list (pv 4)) (blkOk_by (N := N_law_value) (sc := defScope s_law_value) (by decide +kernel)) (fun _ _ _ _ _ => (pg_tupB (K := K) (n := 2) rfl rfl (pgs_cons (pg_name (i := 7) sc_law_value.nd rfl (by first | exact Or.inl rfl | exact Or.inr rfl)) (pgs_cons (pg_name (i := 2) sc_law_value.nd rfl (by first | exact Or.inl rfl | exact Or.inr rfl)) pgs_nil)))) (fun _ _ _ _ _ => pts_nil) (fun _ _ _ _ _ => (pv 7))) (pa_cons (pe_cmpR (r := rEqD K) (op_eqD hr.units) (pe_lenSetD (by rfl) B.len_ (by rfl) B.set_ (pe_lc (own := [("rank", 2), ("suit", 3)]) (g := _) (tt := tYes) rfl sc_law_value.nd (pi_tup (pv 0)) (blkOk_by (N := N_law_value) (sc := defScope s_law_value) (by decide +kernel)) (fun _ _ _ _ _ => (pg_tupB (K := K) (n := 2) rfl rfl (pgs_cons (pg_name (i := 2) sc_law_value.nd rfl (by first | exact Or.inl rfl | exact Or.inr rfl)) (pgs_cons (pg_name (i := 3) sc_law_value.nd rfl (by first | exact Or.inl rfl | exact Or.inr rfl)) pgs_nil)))) (fun _ _ _ _ _ => pts_nil) (fun _ _ _ _ _ => (pv 3)))) pe_int (nomark _)) pa_nil)) rfl rfl) (pss_cons (ps_set (i := 8) sc_law_value.nd rfl (Or.inl rfl) (pe_ifExp (pt_cmpR (r := rEqD K) (op_eqD hr.units) (pv 5) (pe_op op_rep (pe_lst (pa_cons pe_int pa_nil)) pe_int) (nomark _)) pe_int (pe_ifExp (pt_cmpR (r := rEqD K) (op_eqD hr.units) (pv 5) (pe_lst (pa_cons pe_int (pa_cons pe_int (pa_cons pe_int (pa_cons pe_int pa_nil))))) (nomark _)) pe_int (pe_ifExp (pt_cmpR (r := rEqD K) (op_eqD hr.units) (pv 5) (pe_lst (pa_cons pe_int (pa_cons pe_int (pa_cons pe_int pa_nil)))) (nomark _)) pe_int (pe_ifExp (pt_cmpR (r := rEqD K) (op_eqD hr.units) (pv 5) (pe_lst (pa_cons pe_int (pa_cons pe_int (pa_cons pe_int pa_nil)))) (nomark _)) pe_int (pe_ifExp (pt_cmpR (r := rEqD K) (op_eqD hr.units) (pv 5) (pe_lst (pa_cons pe_int (pa_cons pe_int pa_nil))) (nomark _)) pe_int pe_int)))))) (pss_cons (ps_if (pt_cmpR (r := rEqD K) (op_eqD hr.units) (pv 8) pe_int (nomark _)) (pss_cons (ps_set (i := 9) sc_law_value.nd rfl (Or.inl rfl) (pe_cmpR (r := rEqD K) (op_eqD hr.units) (pe_op op_sub (pe_callB (r := rMaxT K) (cr_maxT rfl) (by rfl) B.max_ (by decide +kernel) (pa_cons (pv 1) pa_nil)) (pe_callB (r := rMinT K) (cr_minT rfl) (by rfl) B.min_ (by decide +kernel) (pa_cons (pv 1) pa_nil))) pe_int (nomark _))) (pss_one (ps_set (i := 8) sc_law_value.nd rfl (Or.inl rfl) (pe_ifExp (PW.pt (pw_and (pt_truth (pv 9) (fun _ => rfl)) (pw_and1 (pt_truth (pv 6) (fun _ => rfl))))) pe_int (pe_ifExp (pt_truth (pv 6) (fun _ => rfl)) pe_int (pe_ifExp (pt_truth (pv 9) (fun _ => rfl)) pe_int pe_int)))))) pss_nil) (pss_one (ps_ret (pe_tupF (pa_cons (pv 8) (pa_cons (pe_lc (own := [("count", 7), ("rank", 2)]) (g := _) (tt := tYes) rfl sc_law_value.nd (pi_list (pv 4)) (blkOk_by (N := N_law_value) (sc := defScope s_law_value) (by decide +kernel)) (fun _ _ _ _ _ => (pg_tupB (K := K) (n := 2) rfl rfl (pgs_cons (pg_name (i := 7) sc_law_value.nd rfl (by first | exact Or.inl rfl | exact Or.inr rfl)) (pgs_cons (pg_name (i := 2) sc_law_value.nd rfl (by first | exact Or.inl rfl | exact Or.inr rfl)) pgs_nil)))) (fun _ _ _ _ _ => pts_nil) (fun _ _ _ _ _ => (pv 2))) pa_nil)))))))))), fun vs Q => fn_pure (N := N_law_value) (fun ds d h => ?_) (fun B S ds d h D hR hN => ?_) vs H Q E0⟩), hm, F.kp, F.binds fun _ _ _ _ _ _ us hl => match us, hl with | [_], _ => rfl⟩
  · obtain ⟨hand, rfl, h0, rfl⟩ := h; rfl
  · obtain ⟨hand, rfl, h0, rfl⟩ := h; simp
  · obtain ⟨hand, rfl, h0, rfl⟩ := h
    show Ss _ _ [.da ((eT (eP PyData.int PyData.int)) hand), .no, .no, .no, .no, .no, .no, .no, .no, .no] _ _
    refine s_seq (s_asg (ed_L (el_lcAX (xs := hand) (ea := fun x => Itm.hard ((eP PyData.int PyData.int) x)) (enc := PyData.int) (fb := fun (x1 : (Int × Int)) => (x1).1) (ei_tupX (ed_var rfl)) (by omega) (by simp) (fun _ _ x1 hx1 => ⟨_, rfl, (eg_tup (egs_cons (eg_name (by simp)) (egs_cons (eg_name (by simp)) egs_nil))), (ed_var rfl)⟩))) (s_le (ρ1 := [.da ((eT (eP PyData.int PyData.int)) hand), .da ((eL PyData.int) ((hand).map fun (x1 : (Int × Int)) => (x1).1)), .no, .no, .no, .no, .no, .no, .no, .no]) (le_rfl rfl) ?_))
    obtain ⟨many_v, h_many_v⟩ : ∃ z : (List (Int × Int)), z = ((sortX (eP PyData.int PyData.int) (((sortU ((hand).map fun (x1 : (Int × Int)) => (x1).1))).map fun (x2 : Int) => ((((((hand).map fun (x1 : (Int × Int)) => (x1).1)).count x2 : Nat) : Int), x2)))).reverse := ⟨_, rfl⟩
    refine s_seq (s_asg (ed_L (el_revL (ed_L (el_sortX (enc := (eP PyData.int PyData.int)) (ed_L (el_lcAX (xs := (sortU ((hand).map fun (x1 : (Int × Int)) => (x1).1))) (ea := fun x => Itm.hard (PyData.int x)) (enc := (eP PyData.int PyData.int)) (fb := fun (x2 : Int) => ((((((hand).map fun (x1 : (Int × Int)) => (x1).1)).count x2 : Nat) : Int), x2)) (ei_listX (ed_L (el_sortU (ed_var rfl) (by rw [List.length_map]; omega)))) (by exact Nat.le_trans (sortU_len _) (by rw [List.length_map]; omega)) (by simp) (fun _ _ x2 hx2 => ⟨_, rfl, (eg_name (by simp)), (ed_tup (ds := [(PyData.int (((((hand).map fun (x1 : (Int × Int)) => (x1).1)).count x2 : Nat) : Int)), (PyData.int x2)]) (ea_cons (ed_lcount (ed_var rfl) (ed_var rfl)) (ea_cons (ed_var rfl) ea_nil)))⟩))) (by exact pi_al _) (by exact pi_so _) (by exact fun p _ => card_depth p))))) (s_le (ρ1 := [.da ((eT (eP PyData.int PyData.int)) hand), .da ((eL PyData.int) ((hand).map fun (x1 : (Int × Int)) => (x1).1)), .no, .no, .da ((eL (eP PyData.int PyData.int)) many_v), .no, .no, .no, .no, .no]) (le_rfl (by subst h_many_v; rfl)) ?_))
    have hm : many_v = manyL hand := h_many_v
    obtain ⟨counts_v, h_counts_v⟩ : ∃ z : (List Int), z = ((many_v).map fun (x3 : (Int × Int)) => (x3).1) := ⟨_, rfl⟩
    refine s_seq (s_par (ea_cons (ed_L (el_lcAX (xs := many_v) (ea := fun x => Itm.hard ((eP PyData.int PyData.int) x)) (enc := PyData.int) (fb := fun (x3 : (Int × Int)) => (x3).1) (ei_listX (ed_var rfl)) (by exact Nat.le_trans (Nat.le_of_eq (congrArg List.length hm)) (Nat.le_trans (many_len hand) (by omega))) (by simp) (fun _ _ x3 hx3 => ⟨_, rfl, (eg_tup (egs_cons (eg_name (by simp)) (egs_cons (eg_name (by simp)) egs_nil))), (ed_var rfl)⟩))) (ea_cons (ed_eqI (ed_lenSet (ed_L (el_lcAX (xs := hand) (ea := fun x => Itm.hard ((eP PyData.int PyData.int) x)) (enc := PyData.int) (fb := fun (x4 : (Int × Int)) => (x4).2) (ei_tupX (ed_var rfl)) (by omega) (by simp) (fun _ _ x4 hx4 => ⟨_, rfl, (eg_tup (egs_cons (eg_name (by simp)) (egs_cons (eg_name (by simp)) egs_nil))), (ed_var rfl)⟩))) (by rw [List.length_map]; omega)) ed_int) ea_nil)) (s_le (ρ1 := [.da ((eT (eP PyData.int PyData.int)) hand), .da ((eL PyData.int) ((hand).map fun (x1 : (Int × Int)) => (x1).1)), .no, .no, .da ((eL (eP PyData.int PyData.int)) many_v), .da ((eL PyData.int) counts_v), .da (PyData.bool (decide (((dls ((hand).map fun (x4 : (Int × Int)) => (x4).2) : Nat) : Int) = (1 : Int)))), .no, .no, .no]) (le_rfl (by subst h_counts_v; rfl)) ?_))
    have hcs : counts_v = (manyL hand).map Prod.fst := h_counts_v.trans (by rw [hm])
    have hp : counts_v ∈ parts := hcs ▸ many_parts h0
    obtain ⟨place_v, h_place_v⟩ : ∃ z : Int, z = (if (PyData.eqv ((eL PyData.int) counts_v) ((eL PyData.int) ((List.replicate ((5 : Int)).toNat [(1 : Int)]).flatten))) = true then (0 : Int) else (if (PyData.eqv ((eL PyData.int) counts_v) ((eL PyData.int) [(2 : Int), (1 : Int), (1 : Int), (1 : Int)])) = true then (1 : Int) else (if (PyData.eqv ((eL PyData.int) counts_v) ((eL PyData.int) [(2 : Int), (2 : Int), (1 : Int)])) = true then (2 : Int) else (if (PyData.eqv ((eL PyData.int) counts_v) ((eL PyData.int) [(3 : Int), (1 : Int), (1 : Int)])) = true then (3 : Int) else (if (PyData.eqv ((eL PyData.int) counts_v) ((eL PyData.int) [(3 : Int), (2 : Int)])) = true then (6 : Int) else (7 : Int)))))) := ⟨_, rfl⟩
    refine s_seq (s_asg (ed_ite (e := PyData.int) (et_test (ed_eq (ed_var rfl) (ed_L (el_rep (el_lst (ds := [(1 : Int)].map PyData.int) (ea_cons ed_int ea_nil)) (fun _ _ => ed_int) (by simp))) (by exact sh_of (f := eL PyData.int) _) (by exact sh_of (f := eL PyData.int) _))) (fun hb5 => ed_int) (fun hb5 => (ed_ite (e := PyData.int) (et_test (ed_eq (ed_var rfl) (ed_L (el_lst (ds := [(2 : Int), (1 : Int), (1 : Int), (1 : Int)].map PyData.int) (ea_cons ed_int (ea_cons ed_int (ea_cons ed_int (ea_cons ed_int ea_nil)))))) (by exact sh_of (f := eL PyData.int) _) (by exact sh_of (f := eL PyData.int) _))) (fun hb6 => ed_int) (fun hb6 => (ed_ite (e := PyData.int) (et_test (ed_eq (ed_var rfl) (ed_L (el_lst (ds := [(2 : Int), (2 : Int), (1 : Int)].map PyData.int) (ea_cons ed_int (ea_cons ed_int (ea_cons ed_int ea_nil))))) (by exact sh_of (f := eL PyData.int) _) (by exact sh_of (f := eL PyData.int) _))) (fun hb7 => ed_int) (fun hb7 => (ed_ite (e := PyData.int) (et_test (ed_eq (ed_var rfl) (ed_L (el_lst (ds := [(3 : Int), (1 : Int), (1 : Int)].map PyData.int) (ea_cons ed_int (ea_cons ed_int (ea_cons ed_int ea_nil))))) (by exact sh_of (f := eL PyData.int) _) (by exact sh_of (f := eL PyData.int) _))) (fun hb8 => ed_int) (fun hb8 => (ed_ite (e := PyData.int) (et_test (ed_eq (ed_var rfl) (ed_L (el_lst (ds := [(3 : Int), (2 : Int)].map PyData.int) (ea_cons ed_int (ea_cons ed_int ea_nil)))) (by exact sh_of (f := eL PyData.int) _) (by exact sh_of (f := eL PyData.int) _))) (fun hb9 => ed_int) (fun hb9 => ed_int)))))))))) (s_le (ρ1 := [.da ((eT (eP PyData.int PyData.int)) hand), .da ((eL PyData.int) ((hand).map fun (x1 : (Int × Int)) => (x1).1)), .no, .no, .da ((eL (eP PyData.int PyData.int)) many_v), .da ((eL PyData.int) counts_v), .da (PyData.bool (decide (((dls ((hand).map fun (x4 : (Int × Int)) => (x4).2) : Nat) : Int) = (1 : Int)))), .no, .da (PyData.int place_v), .no]) (le_rfl (by subst h_place_v; rfl)) ?_))
    rw [placeE] at h_place_v
    refine s_seq (s_if (b := (decide (place_v = (0 : Int)))) (et_test (ed_eqI (ed_var rfl) ed_int)) (fun hc0 => ?_) (fun hc0 => ?_))
    · refine s_seq (s_asg (ed_eqI (ed_I0 (ed_maxL (ed_var rfl) (by rw [List.length_map]; omega)) (ed_minL (ed_var rfl) (by rw [List.length_map]; omega))) ed_int) (s_le (ρ1 := [.da ((eT (eP PyData.int PyData.int)) hand), .da ((eL PyData.int) ((hand).map fun (x1 : (Int × Int)) => (x1).1)), .no, .no, .da ((eL (eP PyData.int PyData.int)) many_v), .da ((eL PyData.int) counts_v), .da (PyData.bool (decide (((dls ((hand).map fun (x4 : (Int × Int)) => (x4).2) : Nat) : Int) = (1 : Int)))), .no, .da (PyData.int place_v), .da (PyData.bool (decide (((maxOf ((hand).map fun (x1 : (Int × Int)) => (x1).1)) - (minOf ((hand).map fun (x1 : (Int × Int)) => (x1).1))) = (4 : Int))))]) (le_rfl rfl) ?_))
      refine (s_asg (ed_ite (e := PyData.int) (et_and (et_truB (ed_var rfl)) (fun hb10 => (et_truB (ed_var rfl)))) (fun hb11 => ed_int) (fun hb11 => (ed_ite (e := PyData.int) (et_truB (ed_var rfl)) (fun hb12 => ed_int) (fun hb12 => (ed_ite (e := PyData.int) (et_truB (ed_var rfl)) (fun hb13 => ed_int) (fun hb13 => ed_int)))))) (s_le (ρ1 := [.da ((eT (eP PyData.int PyData.int)) hand), .da ((eL PyData.int) ((hand).map fun (x1 : (Int × Int)) => (x1).1)), .no, .no, .da ((eL (eP PyData.int PyData.int)) many_v), .da ((eL PyData.int) counts_v), .da (PyData.bool (decide (((dls ((hand).map fun (x4 : (Int × Int)) => (x4).2) : Nat) : Int) = (1 : Int)))), .no, .da (PyData.int (if ((decide (((maxOf ((hand).map fun (x1 : (Int × Int)) => (x1).1)) - (minOf ((hand).map fun (x1 : (Int × Int)) => (x1).1))) = (4 : Int))) && (decide (((dls ((hand).map fun (x4 : (Int × Int)) => (x4).2) : Nat) : Int) = (1 : Int)))) = true then (8 : Int) else (if (decide (((dls ((hand).map fun (x4 : (Int × Int)) => (x4).2) : Nat) : Int) = (1 : Int))) = true then (5 : Int) else (if (decide (((maxOf ((hand).map fun (x1 : (Int × Int)) => (x1).1)) - (minOf ((hand).map fun (x1 : (Int × Int)) => (x1).1))) = (4 : Int))) = true then (4 : Int) else (0 : Int))))), .da (PyData.bool (decide (((maxOf ((hand).map fun (x1 : (Int × Int)) => (x1).1)) - (minOf ((hand).map fun (x1 : (Int × Int)) => (x1).1))) = (4 : Int))))]) (le_rfl rfl) ?_))
      exact s_ret (ed_is (ed_tup (ds := [(PyData.int (if ((decide (((maxOf ((hand).map fun (x1 : (Int × Int)) => (x1).1)) - (minOf ((hand).map fun (x1 : (Int × Int)) => (x1).1))) = (4 : Int))) && (decide (((dls ((hand).map fun (x4 : (Int × Int)) => (x4).2) : Nat) : Int) = (1 : Int)))) = true then (8 : Int) else (if (decide (((dls ((hand).map fun (x4 : (Int × Int)) => (x4).2) : Nat) : Int) = (1 : Int))) = true then (5 : Int) else (if (decide (((maxOf ((hand).map fun (x1 : (Int × Int)) => (x1).1)) - (minOf ((hand).map fun (x1 : (Int × Int)) => (x1).1))) = (4 : Int))) = true then (4 : Int) else (0 : Int))))), ((eL PyData.int) ((many_v).map fun (x14 : (Int × Int)) => (x14).2))]) (ea_cons (ed_var rfl) (ea_cons (ed_L (el_lcAX (xs := many_v) (ea := fun x => Itm.hard ((eP PyData.int PyData.int) x)) (enc := PyData.int) (fb := fun (x14 : (Int × Int)) => (x14).2) (ei_listX (ed_var rfl)) (by exact Nat.le_trans (Nat.le_of_eq (congrArg List.length hm)) (Nat.le_trans (many_len hand) (by omega))) (by simp) (fun _ _ x14 hx14 => ⟨_, rfl, (eg_tup (egs_cons (eg_name (by simp)) (egs_cons (eg_name (by simp)) egs_nil))), (ed_var rfl)⟩))) ea_nil))) (by have e1 := placeD_0 _ hp (h_place_v.symm.trans (of_decide_eq_true hc0)); exact val_ret (pr0 (hcs.symm.trans e1) _ _ (row_eq h0 (hcs.symm.trans e1)) rfl) hm : ((eP PyData.int (eL PyData.int)) ((if ((decide (((maxOf ((hand).map fun (x1 : (Int × Int)) => (x1).1)) - (minOf ((hand).map fun (x1 : (Int × Int)) => (x1).1))) = (4 : Int))) && (decide (((dls ((hand).map fun (x4 : (Int × Int)) => (x4).2) : Nat) : Int) = (1 : Int)))) = true then (8 : Int) else (if (decide (((dls ((hand).map fun (x4 : (Int × Int)) => (x4).2) : Nat) : Int) = (1 : Int))) = true then (5 : Int) else (if (decide (((maxOf ((hand).map fun (x1 : (Int × Int)) => (x1).1)) - (minOf ((hand).map fun (x1 : (Int × Int)) => (x1).1))) = (4 : Int))) = true then (4 : Int) else (0 : Int)))), ((many_v).map fun (x14 : (Int × Int)) => (x14).2))) = ((eP PyData.int (eL PyData.int)) (valF hand)))) hR
    · refine s_next ?_
      exact s_ret (ed_is (ed_tup (ds := [(PyData.int place_v), ((eL PyData.int) ((many_v).map fun (x15 : (Int × Int)) => (x15).2))]) (ea_cons (ed_var rfl) (ea_cons (ed_L (el_lcAX (xs := many_v) (ea := fun x => Itm.hard ((eP PyData.int PyData.int) x)) (enc := PyData.int) (fb := fun (x15 : (Int × Int)) => (x15).2) (ei_listX (ed_var rfl)) (by exact Nat.le_trans (Nat.le_of_eq (congrArg List.length hm)) (Nat.le_trans (many_len hand) (by omega))) (by simp) (fun _ _ x15 hx15 => ⟨_, rfl, (eg_tup (egs_cons (eg_name (by simp)) (egs_cons (eg_name (by simp)) egs_nil))), (ed_var rfl)⟩))) ea_nil))) (by exact val_ret (by rw [placeH_C, h_place_v, ← hcs]; exact placeD_C _ hp _ _ (fun z => of_decide_eq_false hc0 (h_place_v.trans z))) hm : ((eP PyData.int (eL PyData.int)) (place_v, ((many_v).map fun (x15 : (Int × Int)) => (x15).2))) = ((eP PyData.int (eL PyData.int)) (valF hand)))) hR

/-! ### _law_pack -/
abbrev s_law_pack : Stmt := topS 39
abbrev N_law_pack : List Str := ["ranks", "suits", "found", "rank", "suit"]
theorem sc_law_pack : FnScope N_law_pack ["ranks", "suits"] (defScope s_law_pack) := ⟨rfl, rfl, rfl, by decide +kernel, rfl, by decide +kernel, by decide +kernel⟩
def R_law_pack : List PyData → PyData → Prop := fun ds d => ∃ (ranks : Int) (suits : Int), ds = [(PyData.int ranks), (PyData.int suits)] ∧ (PackOk ranks suits) ∧ d = ((eL (eP PyData.int PyData.int)) (packL ranks suits))
set_option maxHeartbeats 4000000 in
theorem ok_law_pack {P : Program} {w : World} {K : PySem.W.Frag} {mg : Str → Option Value} {base : Heap} (B : Gb K mg) (F : Fd K mg "_law_pack" s_law_pack) : Cl P w K mg base 1 "_law_pack" ["ranks", "suits"] (SpP K R_law_pack) := by
  have BG := B
  obtain ⟨f, fd, F, hm⟩ := F.ex
  refine ⟨f, fd, fnG_of (k := 0) F sc_law_pack (spP_len fun ds d h => ?_) (fun cdv A outer s H hr hgd => ⟨_, (pss_cons (ps_set (i := 2) sc_law_pack.nd rfl (Or.inl rfl) (pe_lst pa_nil)) (pss_cons (ps_for PassesOwn.never rfl (pi_range1 (by rfl) B.range_ (pa_cons (pv 0) pa_nil)) (pg_name (i := 3) sc_law_pack.nd rfl (Or.inr rfl)) (pss_one (ps_expr (pe_bm PySem.F.plainAttrs_list PySem.F.slot_list_extend PySem.F.type_list_extend mt_extend (pv 2) (pa_cons (pe_lc (own := [("suit", 4)]) (g := _) (tt := tYes) rfl sc_law_pack.nd (pi_range1 (by rfl) B.range_ (pa_cons (pv 1) pa_nil)) (blkOk_by (N := N_law_pack) (sc := defScope s_law_pack) (by decide +kernel)) (fun _ _ _ _ _ => (pg_name (i := 4) sc_law_pack.nd rfl (by first | exact Or.inl rfl | exact Or.inr rfl))) (fun _ _ _ _ _ => pts_nil) (fun _ _ _ _ _ => (pe_tupF (pa_cons (pv 3) (pa_cons (pv 4) pa_nil))))) pa_nil))))) (pss_one (ps_ret (pv 2))))), fun vs Q => fn_pure (N := N_law_pack) (fun ds d h => ?_) (fun B S ds d h D hR hN => ?_) vs H Q E0⟩), hm, F.kp, F.binds fun _ _ _ _ _ _ us hl => match us, hl with | [_, _], _ => rfl⟩
  · obtain ⟨ranks, suits, rfl, h0, rfl⟩ := h; rfl
  · obtain ⟨ranks, suits, rfl, h0, rfl⟩ := h; simp
  · obtain ⟨ranks, suits, rfl, h0, rfl⟩ := h
    show Ss _ _ [.da (PyData.int ranks), .da (PyData.int suits), .no, .no, .no] _ _
    refine s_seq (s_asgM (ds := ([]).map (eP PyData.int PyData.int)) (el_lst (ds := [].map (eP PyData.int PyData.int)) ea_nil) (fun p_found1 => s_le (ρ1 := [.da (PyData.int ranks), .da (PyData.int suits), .mu true p_found1 (.lst ([].map (eP PyData.int PyData.int))), .no, .no]) (le_rfl rfl) ?_))
    refine s_seq (s_forX ((List.range (ranks).toNat)) (fun (i : Nat) => Itm.hard (PyData.int (i : Int))) (ei_rng (ed_var rfl) (by have := h0.1; have := h0.2; omega)) (fun i0 => [.da (PyData.int ranks), .da (PyData.int suits), .mu true p_found1 (.lst ((((List.range ranks.toNat).take i0).flatMap fun (x : Nat) => (List.range suits.toNat).map fun (y : Nat) => ((x : Int), (y : Int))).map (eP PyData.int PyData.int))), .no, .no]) (le_same (le_same (le_mu (congrArg MO.lst (by rfl)) (le_no (le_no le_nil))))) (fun T0 hT0 i0 x0 hx0 => ⟨_, [3], (eg_name (by simp)), ?_⟩) ?_)
    · show Ss _ _ [.da (PyData.int ranks), .da (PyData.int suits), .mu true p_found1 (.lst ((((List.range ranks.toNat).take i0).flatMap fun (x : Nat) => (List.range suits.toNat).map fun (y : Nat) => ((x : Int), (y : Int))).map (eP PyData.int PyData.int))), .da (PyData.int (x0 : Int)), .no] _ _
      have hlt := rng_get hx0
      refine (s_extend (el_lcAX (xs := (List.range (suits).toNat)) (ea := fun (i : Nat) => Itm.hard (PyData.int (i : Int))) (enc := (eP PyData.int PyData.int)) (fb := fun (x2 : Nat) => ((x0 : Int), (x2 : Int))) (ei_rng (ed_var rfl) (by have := h0.1; have := h0.2; omega)) (by rw [List.length_range]; have := h0.2; omega) (by simp) (fun _ _ x2 hx2 => ⟨_, rfl, (eg_name (by simp)), (ed_tup (ds := [(PyData.int (x0 : Int)), (PyData.int (x2 : Int))]) (ea_cons (ed_var rfl) (ea_cons (ed_var rfl) ea_nil)))⟩)) ⟨_, _, rfl⟩ rfl (by rw [List.length_map, List.length_map]; exact pack_ext h0 (by have := h0.1; omega)) (s_le (ρ1 := [.da (PyData.int ranks), .da (PyData.int suits), .mu true p_found1 (.lst (((((List.range ranks.toNat).take i0).flatMap fun (x : Nat) => (List.range suits.toNat).map fun (y : Nat) => ((x : Int), (y : Int))) ++ (((List.range (suits).toNat)).map fun (x2 : Nat) => ((x0 : Int), (x2 : Int)))).map (eP PyData.int PyData.int))), .da (PyData.int (x0 : Int)), .no]) (le_same (le_same (le_mu (congrArg MO.lst (by simp)) (le_same (le_same le_nil))))) ?_))
      exact s_end (le_same (le_same (le_mu (congrArg MO.lst (by exact congrArg (List.map (eP PyData.int PyData.int)) (pack_step hx0).symm)) (le_no (le_no le_nil)))))
    refine s_le (ρ1 := [.da (PyData.int ranks), .da (PyData.int suits), .da ((eL (eP PyData.int PyData.int)) (((List.range ranks.toNat).take ((List.range (ranks).toNat)).length).flatMap fun (x : Nat) => (List.range suits.toNat).map fun (y : Nat) => ((x : Int), (y : Int)))), .no, .no]) (le_same (le_same (le_frz (le_no (le_no le_nil))))) ?_
    exact s_ret (ed_is (ed_var rfl) (by rw [List.take_length]; rfl : ((eL (eP PyData.int PyData.int)) (((List.range ranks.toNat).take ((List.range (ranks).toNat)).length).flatMap fun (x : Nat) => (List.range suits.toNat).map fun (y : Nat) => ((x : Int), (y : Int)))) = ((eL (eP PyData.int PyData.int)) (packL ranks suits)))) hR

/-! ### _law_hand -/
abbrev s_law_hand : Stmt := topS 40
abbrev N_law_hand : List Str := ["state", "pack", "many", "left", "found", "k", "near"]
theorem sc_law_hand : FnScope N_law_hand ["state", "pack", "many"] (defScope s_law_hand) := ⟨rfl, rfl, rfl, by decide +kernel, rfl, by decide +kernel, by decide +kernel⟩
def R_law_hand : List PyData → (PyData → Prop) → Prop := fun ds Φ => ∃ (pack : (List (Int × Int))) (many : Int), ds = [((eL (eP PyData.int PyData.int)) pack), (PyData.int many)] ∧ (pack.Pairwise CardLt ∧ pack.length ≤ 78) ∧ (0 ≤ many ∧ many ≤ pack.length) ∧ ∀ z : (List (Int × Int)), (z.Pairwise CardLt ∧ z.length = many.toNat ∧ ∀ c ∈ z, c ∈ pack) → Φ ((eT (eP PyData.int PyData.int)) z)
set_option maxHeartbeats 4000000 in
theorem ok_law_hand {P : Program} {w : World} {K : PySem.W.Frag} {mg : Str → Option Value} {base : Heap} (B : Gb K mg) (F : Fd K mg "_law_hand" s_law_hand) (C_law_draw : Cl P w K mg base 1 "_law_draw" ["state", "many"] (SpW K R_draw)) (C_law_pick : Cl P w K mg base 2 "_law_pick" ["state", "some"] (SpW K R_pick)) : Cl P w K mg base 3 "_law_hand" ["state", "pack", "many"] (SpW K R_law_hand) := by
  have BG := B
  obtain ⟨f, fd, F, hm⟩ := F.ex
  refine ⟨f, fd, fnG_of (k := 2) F sc_law_hand (spW_len fun ds d h => ?_) (fun cdv A outer s H hr hgd => ⟨_, (pss_cons (ps_par (i := 3) (j := 4) rfl sc_law_hand.nd rfl rfl (by decide) rfl rfl (pa_cons (pe_callTy call_list_of (by rfl) B.list_ PyProof.Rows.boot_list (pa_cons (pv 1) pa_nil)) (pa_cons (pe_lst pa_nil) pa_nil)) rfl rfl) (pss_cons (ps_for PassesOwn.never rfl (pi_range1 (by rfl) B.range_ (pa_cons (pv 2) pa_nil)) (pg_name (i := 5) sc_law_hand.nd rfl (Or.inl rfl)) (pss_cons (ps_set (i := 6) sc_law_hand.nd rfl (Or.inl rfl) (pe_slice sl_list (pv 3) po_none (po_some (pe_callB (r := rMaxT K) (cr_maxT rfl) (by rfl) B.max_ (by decide +kernel) (pa_cons (pe_lst (pa_cons pe_int (pa_cons (pe_op op_fdivG (pe_callB (r := rLenS K) call_len_seq (by rfl) B.len_ PySem.boot_len (pa_cons (pv 3) pa_nil)) (pe_cl C_law_pick (hr.mono (by decide)) hgd (by rfl) (pa_cons (pv 0) (pa_cons (pe_lst (pa_cons pe_int (pa_cons pe_int (pa_cons pe_int pa_nil)))) pa_nil)))) pa_nil))) pa_nil))))) (pss_cons (ps_expr (pe_bm PySem.F.plainAttrs_list PySem.F.slot_list_append PySem.F.type_list_append mt_append (pv 4) (pa_cons (pe_ix (r := rIxL K) ix_list (pv 6) (pe_cl C_law_draw (hr.mono (by decide)) hgd (by rfl) (pa_cons (pv 0) (pa_cons (pe_callB (r := rLenS K) call_len_seq (by rfl) B.len_ PySem.boot_len (pa_cons (pv 6) pa_nil)) pa_nil))) (fun _ _ => rfl)) pa_nil))) (pss_one (ps_expr (pe_bm PySem.F.plainAttrs_list PySem.F.slot_list_remove PySem.F.type_list_remove (mt_removeD (Nat.lt_of_le_of_lt (Nat.add_le_add_left (by decide : 64 ≤ 64) _) hr.units)) (pv 3) (pa_cons (pe_ix (r := rIxL K) ix_list (pv 4) (pe_un un_neg pe_int) (fun _ _ => rfl)) pa_nil))))))) (pss_one (ps_ret (pe_callTy (r := rTupOf K) call_tupleF (by rfl) B.tuple_ PyProof.Rows.boot_tuple (pa_cons (pe_callB (r := rSortX K (eP PyData.int PyData.int)) (cr_sortedX (Nat.lt_of_le_of_lt (Nat.add_le_add_left (by decide : 64 ≤ 64) _) hr.units)) (by rfl) B.sorted_ (by decide +kernel) (pa_cons (pv 4) pa_nil)) pa_nil)))))), fun vs Q => fn_draws (N := N_law_hand) (fun ds d h => ?_) (fun B S a ds Φ h D hR => ?_) vs H Q E0⟩), hm, F.kp, F.binds fun _ _ _ _ _ _ us hl => match us, hl with | [_, _, _], _ => rfl⟩
  · obtain ⟨pack, many, rfl, h0, h1, hΦ⟩ := h; rfl
  · obtain ⟨pack, many, rfl, h0, h1, hΦ⟩ := h; simp
  · obtain ⟨pack, many, rfl, h0, h1, hΦ⟩ := h
    show Ss _ _ [.mu false a (.any StOk), .da ((eL (eP PyData.int PyData.int)) pack), .da (PyData.int many), .no, .no, .no, .no] _ _
    refine s_seq (s_parM2 (ds := (pack).map (eP PyData.int PyData.int)) (es := ([]).map (eP PyData.int PyData.int)) (el_listOf (.inl (ed_var rfl))) (fun _ _ => (el_lst (ds := [].map (eP PyData.int PyData.int)) ea_nil)) (by decide) (fun p_left1 p_found2 => s_le (ρ1 := [.mu false a (.any StOk), .da ((eL (eP PyData.int PyData.int)) pack), .da (PyData.int many), .mu true p_left1 (.lst (pack.map (eP PyData.int PyData.int))), .mu true p_found2 (.lst ([].map (eP PyData.int PyData.int))), .no, .no]) (le_rfl rfl) ?_))
    refine s_seq (s_forN (β := List Card × List Card) ((List.range (many).toNat)) (fun (i : Nat) => Itm.hard (PyData.int (i : Int))) (ei_rng (ed_var rfl) (by omega)) (fun i0 b0 => (b0.1 ++ b0.2).Perm pack ∧ b0.2.length = i0) (fun i0 b0 => [.mu false a (.any StOk), .da ((eL (eP PyData.int PyData.int)) pack), .da (PyData.int many), .mu true p_left1 (.lst (b0.1.map (eP PyData.int PyData.int))), .mu true p_found2 (.lst (b0.2.map (eP PyData.int PyData.int))), .no, .no]) ((pack, [])) (by exact ⟨by simp, rfl⟩) (le_same (le_same (le_same (le_mu (congrArg MO.lst (by rfl)) (le_mu (congrArg MO.lst (by rfl)) (le_no (le_no le_nil))))))) (fun T0 hT0 i0 x0 b0 hx0 hP0 => ⟨_, [5], (eg_name (by simp)), ?_⟩) (fun b0 hP0 => ?_))
    · show Ss _ _ [.mu false a (.any StOk), .da ((eL (eP PyData.int PyData.int)) pack), .da (PyData.int many), .mu true p_left1 (.lst (b0.1.map (eP PyData.int PyData.int))), .mu true p_found2 (.lst (b0.2.map (eP PyData.int PyData.int))), .da (PyData.int (x0 : Int)), .no] _ _
      have hlt := rng_get hx0
      have hpos := hand_len hP0 hlt.2 h1.2
      have hsm : b0.2.length < 100000 := by have := hP0.2; omega
      have hsm2 : b0.1.length ≤ 78 := by have := hP0.1.length_eq; rw [List.length_append] at this; omega
      refine s_seq (s_asgW (ew_L (ewl_cutM (f := (eP PyData.int PyData.int)) (xs := b0.1) ⟨_, _, rfl⟩ (ew_max1 (a := 1) (ew_op (e := PyData.int) (F := (fun _ y4 => (((b0.1.map (eP PyData.int PyData.int)).length : Int) / y4))) (ew_det (f := PyData.int) (x := ((b0.1.map (eP PyData.int PyData.int)).length : Int)) (ed_lenM rfl)) (ew_pickLD (i := 0) (ed_L (el_lst (ds := [(1 : Int), (1 : Int), (3 : Int)].map PyData.int) (ea_cons ed_int (ea_cons ed_int (ea_cons ed_int ea_nil))))) rfl rfl (by decide)) (fun x3 y4 hx5 hy6 _ _ _ ha7 hb8 => by have hx5 := Eq.symm hx5; subst hx5; exact (ed_I ha7 hb8 (by rcases mem3 (by assumption) with e | e | e <;> (rw [e]; exact div_small (by decide) (by decide))))))) rfl)) (fun near_v h_near_v => s_le (ρ1 := [.mu false a (.any StOk), .da ((eL (eP PyData.int PyData.int)) pack), .da (PyData.int many), .mu true p_left1 (.lst (b0.1.map (eP PyData.int PyData.int))), .mu true p_found2 (.lst (b0.2.map (eP PyData.int PyData.int))), .da (PyData.int (x0 : Int)), .da ((eL (eP PyData.int PyData.int)) near_v)]) (le_rfl rfl) ?_))
      try dsimp only at h_near_v
      have hn := near_ok h_near_v hpos
      refine s_seq (s_appendW (ew_op (e := (eP PyData.int PyData.int)) (F := (fun _ y15 => (ixG near_v y15))) (ew_det (f := (fun l : List (Int × Int) => PyData.list (l.map (eP PyData.int PyData.int)))) (x := near_v) (ed_var rfl)) (ew_drawD (i := 0) (ed_lenLX (ed_var rfl)) rfl rfl (by have := hn.2.2; omega)) (fun x14 y15 hx16 hy17 _ _ _ ha18 hb19 => by have hx16 := Eq.symm hx16; subst hx16; exact (ed_ixLX (f := (eP PyData.int PyData.int)) (l := near_v) ha18 hb19 (by exact inb (by assumption))))) ⟨_, _, rfl⟩ rfl (by rw [List.length_map]; exact hsm) (fun app_v h_app_v => s_le (ρ1 := [.mu false a (.any StOk), .da ((eL (eP PyData.int PyData.int)) pack), .da (PyData.int many), .mu true p_left1 (.lst (b0.1.map (eP PyData.int PyData.int))), .mu true p_found2 (.lst ((b0.2 ++ [app_v]).map (eP PyData.int PyData.int))), .da (PyData.int (x0 : Int)), .da ((eL (eP PyData.int PyData.int)) near_v)]) (le_same (le_same (le_same (le_same (le_mu (congrArg MO.lst (by simp)) (le_same (le_same le_nil))))))) ?_))
      try dsimp only at h_app_v
      have ha := app_in h_app_v
      refine (s_removeD (f := (eP PyData.int PyData.int)) (xs := b0.1) (x := (ixG (b0.2 ++ [app_v]) (-1))) (ed_ixMX (f := (eP PyData.int PyData.int)) (xs := (b0.2 ++ [app_v])) (ed_neg ed_int) rfl ⟨_, _, rfl⟩ (by exact inb_last _ _)) ⟨_, _, rfl⟩ rfl (by rw [ixG_last]; exact hn.2.1 _ ha) (fun y => pl_of (f := (eP PyData.int PyData.int)) y) (fun y => dep_of (f := (eP PyData.int PyData.int)) y) (s_le (ρ1 := [.mu false a (.any StOk), .da ((eL (eP PyData.int PyData.int)) pack), .da (PyData.int many), .mu true p_left1 (.lst ((b0.1.erase (ixG (b0.2 ++ [app_v]) (-1))).map (eP PyData.int PyData.int))), .mu true p_found2 (.lst ((b0.2 ++ [app_v]).map (eP PyData.int PyData.int))), .da (PyData.int (x0 : Int)), .da ((eL (eP PyData.int PyData.int)) near_v)]) (le_same (le_same (le_same (le_mu (congrArg MO.lst (congrArg (List.map _) (er_eq _ _ _))) (le_same (le_same (le_same le_nil))))))) ?_))
      exact s_endN ((b0.1.erase (ixG (b0.2 ++ [app_v]) (-1))), (b0.2 ++ [app_v])) (by exact hand_step hP0 (hn.2.1 _ ha)) (le_same (le_same (le_same (le_mu (congrArg MO.lst (by rfl)) (le_mu (congrArg MO.lst (by rfl)) (le_no (le_no le_nil)))))))
    · refine s_le (ρ1 := [.mu false a (.any StOk), .da ((eL (eP PyData.int PyData.int)) pack), .da (PyData.int many), .mu true p_left1 (.lst (b0.1.map (eP PyData.int PyData.int))), .da ((eL (eP PyData.int PyData.int)) b0.2), .no, .no]) (le_same (le_same (le_same (le_same (le_frz (le_no (le_no le_nil))))))) ?_
      exact s_retW (i := 0) (ew_det (f := (fun l : List (Int × Int) => PyData.tuple (l.map (eP PyData.int PyData.int)))) (x := (sortX (eP PyData.int PyData.int) b0.2)) (ed_tupleL (ed_L (el_sortX (enc := (eP PyData.int PyData.int)) (ed_var rfl) (by exact pi_al _) (by exact pi_so _) (by exact fun p _ => card_depth p))))) rfl hR (fun x hx => by subst hx; exact hΦ _ (hand_end h0 hP0))

/-! ### _law_fives -/
abbrev s_law_fives : Stmt := topS 41
abbrev N_law_fives : List Str := ["cards", "rows", "card", "row"]
theorem sc_law_fives : FnScope N_law_fives ["cards"] (defScope s_law_fives) := ⟨rfl, rfl, rfl, by decide +kernel, rfl, by decide +kernel, by decide +kernel⟩
def R_law_fives : List PyData → PyData → Prop := fun ds d => ∃ (cards : (List (Int × Int))), ds = [((eT (eP PyData.int PyData.int)) cards)] ∧ (cards.length ≤ 7) ∧ d = ((eL (eT (eP PyData.int PyData.int))) (fivesL cards))
set_option maxHeartbeats 4000000 in
theorem ok_law_fives {P : Program} {w : World} {K : PySem.W.Frag} {mg : Str → Option Value} {base : Heap} (B : Gb K mg) (F : Fd K mg "_law_fives" s_law_fives) : Cl P w K mg base 1 "_law_fives" ["cards"] (SpP K R_law_fives) := by
  have BG := B
  obtain ⟨f, fd, F, hm⟩ := F.ex
  refine ⟨f, fd, fnG_of (k := 0) F sc_law_fives (spP_len fun ds d h => ?_) (fun cdv A outer s H hr hgd => ⟨_, (pss_cons (ps_set (i := 1) sc_law_fives.nd rfl (Or.inl rfl) (pe_lst (pa_cons (pe_tupF pa_nil) pa_nil))) (pss_cons (ps_for PassesOwn.never rfl (pi_tup (pv 0)) (pg_name (i := 2) sc_law_fives.nd rfl (Or.inr rfl)) (pss_one (ps_set (i := 1) sc_law_fives.nd rfl (Or.inl rfl) (pe_op (r := rCatG K) op_catG (pv 1) (pe_lc (own := [("row", 3)]) (g := _) (tt := _) rfl sc_law_fives.nd (pi_list (pv 1)) (blkOk_by (N := N_law_fives) (sc := defScope s_law_fives) (by decide +kernel)) (fun _ _ _ _ _ => (pg_name (i := 3) sc_law_fives.nd rfl (by first | exact Or.inl rfl | exact Or.inr rfl))) (fun _ _ _ _ _ => (pts_one (pt_cmpR op_lt (pe_callB (r := rLenS K) call_len_seq (by rfl) B.len_ PySem.boot_len (pa_cons (pv 3) pa_nil)) pe_int (nomark _)))) (fun _ _ _ _ _ => (pe_op (r := rCatF K) op_catF (pv 3) (pe_tupF (pa_cons (pv 2) pa_nil))))))))) (pss_one (ps_ret (pe_lc (own := [("row", 3)]) (g := _) (tt := _) rfl sc_law_fives.nd (pi_list (pv 1)) (blkOk_by (N := N_law_fives) (sc := defScope s_law_fives) (by decide +kernel)) (fun _ _ _ _ _ => (pg_name (i := 3) sc_law_fives.nd rfl (by first | exact Or.inl rfl | exact Or.inr rfl))) (fun _ _ _ _ _ => (pts_one (pt_cmpR (r := rEqD K) (op_eqD hr.units) (pe_callB (r := rLenS K) call_len_seq (by rfl) B.len_ PySem.boot_len (pa_cons (pv 3) pa_nil)) pe_int (nomark _)))) (fun _ _ _ _ _ => (pv 3))))))), fun vs Q => fn_pure (N := N_law_fives) (fun ds d h => ?_) (fun B S ds d h D hR hN => ?_) vs H Q E0⟩), hm, F.kp, F.binds fun _ _ _ _ _ _ us hl => match us, hl with | [_], _ => rfl⟩
  · obtain ⟨cards, rfl, h0, rfl⟩ := h; rfl
  · obtain ⟨cards, rfl, h0, rfl⟩ := h; simp
  · obtain ⟨cards, rfl, h0, rfl⟩ := h
    show Ss _ _ [.da ((eT (eP PyData.int PyData.int)) cards), .no, .no, .no] _ _
    refine s_seq (s_asg (ed_L (el_lst (ds := [[]].map (eT (eP PyData.int PyData.int))) (ea_cons (ed_tup (ds := []) ea_nil) ea_nil))) (s_le (ρ1 := [.da ((eT (eP PyData.int PyData.int)) cards), .da ((eL (eT (eP PyData.int PyData.int))) [[]]), .no, .no]) (le_rfl rfl) ?_))
    refine s_seq (s_forX (cards) (fun x => Itm.hard ((eP PyData.int PyData.int) x)) (ei_tupX (ed_var rfl)) (fun i0 => [.da ((eT (eP PyData.int PyData.int)) cards), .da ((eL (eT (eP PyData.int PyData.int))) (fiveL (cards.take i0))), .no, .no]) (le_same (le_da (by rfl) (le_no (le_no le_nil)))) (fun T0 hT0 i0 x0 hx0 => ⟨_, [2], (eg_name (by simp)), ?_⟩) ?_)
    · show Ss _ _ [.da ((eT (eP PyData.int PyData.int)) cards), .da ((eL (eT (eP PyData.int PyData.int))) (fiveL (cards.take i0))), .da ((eP PyData.int PyData.int) x0), .no] _ _
      have hsz := fiveL_sz (i := i0) h0
      refine (s_asg (ed_L (el_cat (ed_var rfl) (ed_L (el_lcPX (xs := (fiveL (cards.take i0))) (ea := fun x => Itm.hard ((eT (eP PyData.int PyData.int)) x)) (p := fun (x1 : (List (Int × Int))) => (decide (((x1).length : Int) < (5 : Int)))) (enc := (fun l : List (Int × Int) => PyData.tuple (l.map (eP PyData.int PyData.int)))) (fb := fun (x1 : (List (Int × Int))) => (x1 ++ [x0])) (ei_listX (ed_var rfl)) (by omega) (by simp) (fun _ _ x1 hx1 => ⟨_, rfl, (eg_name (by simp)), (et_test (ed_B0 (ed_lenTX (ed_var rfl)) ed_int)), fun hp2 => (ed_catT (f := (eP PyData.int PyData.int)) (l := x1) (m := [x0]) (ed_var rfl) (ed_tup (ds := [((eP PyData.int PyData.int) x0)]) (ea_cons (ed_var rfl) ea_nil)) (by have := (fiveL_in _ _ (by assumption)).length_le; rw [List.length_take] at this; simp; omega))⟩))) (by rw [List.length_map]; exact Nat.le_trans (Nat.add_le_add_left (List.length_filter_le _ _) _) (by omega)))) (s_le (ρ1 := [.da ((eT (eP PyData.int PyData.int)) cards), .da ((eL (eT (eP PyData.int PyData.int))) ((fiveL (cards.take i0)) ++ ((((fiveL (cards.take i0))).filter fun (x1 : (List (Int × Int))) => (decide (((x1).length : Int) < (5 : Int)))).map fun (x1 : (List (Int × Int))) => (x1 ++ [x0])))), .da ((eP PyData.int PyData.int) x0), .no]) (le_rfl rfl) ?_))
      exact s_end (le_same (le_da (by exact congrArg (fun z => PyData.list (List.map (eT (eP PyData.int PyData.int)) z)) (fiveL_step hx0).symm) (le_no (le_no le_nil))))
    exact s_ret (ed_is (ed_L (el_lcPX (xs := (fiveL (cards.take (cards).length))) (ea := fun x => Itm.hard ((eT (eP PyData.int PyData.int)) x)) (p := fun (x3 : (List (Int × Int))) => (decide (((x3).length : Int) = (5 : Int)))) (enc := (fun l : List (Int × Int) => PyData.tuple (l.map (eP PyData.int PyData.int)))) (fb := fun (x3 : (List (Int × Int))) => x3) (ei_listX (ed_var rfl)) (by have := fiveL_sz (i := cards.length) h0; omega) (by simp) (fun _ _ x3 hx3 => ⟨_, rfl, (eg_name (by simp)), (et_test (ed_eqI (ed_lenTX (ed_var rfl)) ed_int)), fun hp4 => (ed_var rfl)⟩))) (by exact congrArg (fun z => PyData.list (List.map (eT (eP PyData.int PyData.int)) z)) (five_ret cards) : ((eL (eT (eP PyData.int PyData.int))) ((((fiveL (cards.take (cards).length))).filter fun (x3 : (List (Int × Int))) => (decide (((x3).length : Int) = (5 : Int)))).map fun (x3 : (List (Int × Int))) => x3)) = ((eL (eT (eP PyData.int PyData.int))) (fivesL cards)))) hR

/-! ### _law_compared -/
abbrev s_law_compared : Stmt := topS 42
abbrev N_law_compared : List Str := ["one", "other", "first", "second"]
theorem sc_law_compared : FnScope N_law_compared ["one", "other"] (defScope s_law_compared) := ⟨rfl, rfl, rfl, by decide +kernel, rfl, by decide +kernel, by decide +kernel⟩
def R_law_compared : List PyData → PyData → Prop := fun ds d => ∃ (one : (List (Int × Int))) (other : (List (Int × Int))), ds = [((eT (eP PyData.int PyData.int)) one), ((eT (eP PyData.int PyData.int)) other)] ∧ (one.length = 5) ∧ (other.length = 5) ∧ d = (PyData.int (cmpV (valF one) (valF other)))
set_option maxHeartbeats 4000000 in
theorem ok_law_compared {P : Program} {w : World} {K : PySem.W.Frag} {mg : Str → Option Value} {base : Heap} (B : Gb K mg) (F : Fd K mg "_law_compared" s_law_compared) (C_law_value : Cl P w K mg base 1 "_law_value" ["hand"] (SpP K R_law_value)) : Cl P w K mg base 2 "_law_compared" ["one", "other"] (SpP K R_law_compared) := by
  have BG := B
  obtain ⟨f, fd, F, hm⟩ := F.ex
  refine ⟨f, fd, fnG_of (k := 1) F sc_law_compared (spP_len fun ds d h => ?_) (fun cdv A outer s H hr hgd => ⟨_, (pss_cons (ps_par (i := 2) (j := 3) rfl sc_law_compared.nd rfl rfl (by decide) rfl rfl (pa_cons (pe_cl C_law_value (hr.mono (by decide)) hgd (by rfl) (pa_cons (pv 0) pa_nil)) (pa_cons (pe_cl C_law_value (hr.mono (by decide)) hgd (by rfl) (pa_cons (pv 1) pa_nil)) pa_nil)) rfl rfl) (pss_one (ps_ret (pe_ifExp (pt_cmpR (r := rEqD K) (op_eqD hr.units) (pv 2) (pv 3) (nomark _)) pe_int (pe_ifExp (pt_cmpR (r := rCmpD K (fun d e => PySem.W.dataLt e d)) (op_gtD hr.units) (pv 2) (pv 3) (nomark _)) pe_int (pe_un un_neg pe_int)))))), fun vs Q => fn_pure (N := N_law_compared) (fun ds d h => ?_) (fun B S ds d h D hR hN => ?_) vs H Q E0⟩), hm, F.kp, F.binds fun _ _ _ _ _ _ us hl => match us, hl with | [_, _], _ => rfl⟩
  · obtain ⟨one, other, rfl, h0, h1, rfl⟩ := h; rfl
  · obtain ⟨one, other, rfl, h0, h1, rfl⟩ := h; simp
  · obtain ⟨one, other, rfl, h0, h1, rfl⟩ := h
    show Ss _ _ [.da ((eT (eP PyData.int PyData.int)) one), .da ((eT (eP PyData.int PyData.int)) other), .no, .no] _ _
    refine s_seq (s_par (ea_cons (ed_call (ds := [((eT (eP PyData.int PyData.int)) one)]) (ea_cons (ed_var rfl) ea_nil) ⟨one, rfl, by assumption, rfl⟩) (ea_cons (ed_call (ds := [((eT (eP PyData.int PyData.int)) other)]) (ea_cons (ed_var rfl) ea_nil) ⟨other, rfl, by assumption, rfl⟩) ea_nil)) (s_le (ρ1 := [.da ((eT (eP PyData.int PyData.int)) one), .da ((eT (eP PyData.int PyData.int)) other), .da ((eP PyData.int (eL PyData.int)) (valF (one))), .da ((eP PyData.int (eL PyData.int)) (valF (other)))]) (le_rfl rfl) ?_))
    exact s_ret (ed_is (ed_ite (e := PyData.int) (et_test (ed_eq (ed_var rfl) (ed_var rfl) (by exact sh_of (f := eP PyData.int (eL PyData.int)) _) (by exact sh_of (f := eP PyData.int (eL PyData.int)) _))) (fun hb1 => ed_int) (fun hb1 => (ed_ite (e := PyData.int) (et_test (ed_cmpD (f := fun d e => PySem.W.dataLt e d) (ed_var rfl) (ed_var rfl) (by exact wl_al _ _) (by intro h; cases h) (by exact wl_depth _))) (fun hb2 => ed_int) (fun hb2 => (ed_neg ed_int))))) (by rw [cmp_ret] : (PyData.int (if (PyData.eqv ((eP PyData.int (eL PyData.int)) (valF (one))) ((eP PyData.int (eL PyData.int)) (valF (other)))) = true then (0 : Int) else (if (PySem.W.dataLt ((eP PyData.int (eL PyData.int)) (valF (other))) ((eP PyData.int (eL PyData.int)) (valF (one)))) = true then (1 : Int) else (-(1 : Int))))) = (PyData.int (cmpV (valF one) (valF other))))) hR

/-! ### _law_hands_hold -/
abbrev s_law_hands_hold : Stmt := topS 43
abbrev N_law_hands_hold : List Str := ["state", "ranks", "suits", "pack", "hands", "k", "hand", "turned", "rank", "suit", "other", "due", "cards", "fives", "row", "best", "good"]
theorem sc_law_hands_hold : FnScope N_law_hands_hold ["state", "ranks", "suits", "pack"] (defScope s_law_hands_hold) := ⟨rfl, rfl, rfl, by decide +kernel, rfl, by decide +kernel, by decide +kernel⟩
def R_law_hands_hold : List PyData → (PyData → Prop) → Prop := fun ds Φ => ∃ (ranks : Int) (suits : Int) (pack : (List (Int × Int))), ds = [(PyData.int ranks), (PyData.int suits), ((eL (eP PyData.int PyData.int)) pack)] ∧ (PackOk ranks suits) ∧ (pack = packL ranks suits) ∧ ∀ z : Bool, z = true → Φ (PyData.bool z)
set_option maxHeartbeats 4000000 in
theorem ok_law_hands_hold {P : Program} {w : World} {K : PySem.W.Frag} {mg : Str → Option Value} {base : Heap} (B : Gb K mg) (F : Fd K mg "_law_hands_hold" s_law_hands_hold) (C_law_compared : Cl P w K mg base 2 "_law_compared" ["one", "other"] (SpP K R_law_compared)) (C_law_draw : Cl P w K mg base 1 "_law_draw" ["state", "many"] (SpW K R_draw)) (C_law_fives : Cl P w K mg base 1 "_law_fives" ["cards"] (SpP K R_law_fives)) (C_law_hand : Cl P w K mg base 3 "_law_hand" ["state", "pack", "many"] (SpW K R_law_hand)) (C_law_sorts : Cl P w K mg base 1 "_law_sorts" [] (SpP K R_law_sorts)) (C_law_value : Cl P w K mg base 1 "_law_value" ["hand"] (SpP K R_law_value)) (C_best_of : Cl P w K mg base 7 "best_of" ["ranks", "suits", "cards"] (SpP K R_best_of)) (C_compare_hands : Cl P w K mg base 4 "compare_hands" ["ranks", "suits", "first", "second"] (SpP K R_compare_hands)) (C_sort_name : Cl P w K mg base 5 "sort_name" ["ranks", "suits", "hand"] (SpP K R_sort_name)) : Cl P w K mg base 8 "_law_hands_hold" ["state", "ranks", "suits", "pack"] (SpW K R_law_hands_hold) := by
  have BG := B
  obtain ⟨f, fd, F, hm⟩ := F.ex
  refine ⟨f, fd, fnG_of (k := 7) F sc_law_hands_hold (spW_len fun ds d h => ?_) (fun cdv A outer s H hr hgd => ⟨_, (pss_cons (ps_setLc (i := 4) (own := [("k", 5)]) (g := _) (tt := tYes) rfl sc_law_hands_hold.nd rfl rfl (sw_true rfl rfl rfl (by decide +kernel)) (pi_range1 (by rfl) B.range_ (pa_cons pe_int pa_nil)) (blkOk_by (N := N_law_hands_hold) (sc := defScope s_law_hands_hold) (by decide +kernel)) (fun _ _ _ _ _ => (pg_name (i := 5) sc_law_hands_hold.nd rfl (by first | exact Or.inl rfl | exact Or.inr rfl))) (fun _ _ _ _ _ => pts_nil) (fun _ _ _ _ _ => (pe_cl C_law_hand (hr.mono (by decide)) hgd (by rfl) (pa_cons (pv 0) (pa_cons (pv 3) (pa_cons pe_int pa_nil)))))) (pss_cons (ps_for PassesOwn.never rfl (pi_list (pv 4)) (pg_name (i := 6) sc_law_hands_hold.nd rfl (Or.inl rfl)) (pss_cons (ps_set (i := 7) sc_law_hands_hold.nd rfl (Or.inl rfl) (pe_callTy (r := rTupOf K) call_tupleF (by rfl) B.tuple_ PyProof.Rows.boot_tuple (pa_cons (pe_callB (r := rSortX K (eP PyData.int PyData.int)) (cr_sortedX (Nat.lt_of_le_of_lt (Nat.add_le_add_left (by decide : 64 ≤ 64) _) hr.units)) (by rfl) B.sorted_ (by decide +kernel) (pa_cons (pe_lc (own := [("rank", 8), ("suit", 9)]) (g := _) (tt := tYes) rfl sc_law_hands_hold.nd (pi_tup (pv 6)) (blkOk_by (N := N_law_hands_hold) (sc := defScope s_law_hands_hold) (by decide +kernel)) (fun _ _ _ _ _ => (pg_tupB (K := K) (n := 2) rfl rfl (pgs_cons (pg_name (i := 8) sc_law_hands_hold.nd rfl (by first | exact Or.inl rfl | exact Or.inr rfl)) (pgs_cons (pg_name (i := 9) sc_law_hands_hold.nd rfl (by first | exact Or.inl rfl | exact Or.inr rfl)) pgs_nil)))) (fun _ _ _ _ _ => pts_nil) (fun _ _ _ _ _ => (pe_tupF (pa_cons (pv 8) (pa_cons (pe_op op_sub (pe_op op_sub (pv 2) pe_int) (pv 9)) pa_nil))))) pa_nil)) pa_nil))) (pss_cons (ps_if (PW.pt (pw_or (pt_cmpR op_ne (pe_cl C_sort_name (hr.mono (by decide)) hgd (by rfl) (pa_cons (pv 1) (pa_cons (pv 2) (pa_cons (pv 6) pa_nil)))) (pe_ix (r := rIxL K) ix_list (pe_cl0 C_law_sorts (hr.mono (by decide)) hgd (by rfl)) (pe_ix (r := rIxT K) ix_tup (pe_cl C_law_value (hr.mono (by decide)) hgd (by rfl) (pa_cons (pv 6) pa_nil)) pe_int (fun _ _ => rfl)) (fun _ _ => rfl)) (nomark _)) (pw_or1 (pt_cmpR op_ne (pe_cl C_sort_name (hr.mono (by decide)) hgd (by rfl) (pa_cons (pv 1) (pa_cons (pv 2) (pa_cons (pv 7) pa_nil)))) (pe_cl C_sort_name (hr.mono (by decide)) hgd (by rfl) (pa_cons (pv 1) (pa_cons (pv 2) (pa_cons (pv 6) pa_nil)))) (nomark _))))) pss_never pss_nil) (pss_cons (ps_if (pt_cmpR (r := rNeD K) (op_neD hr.units) (pe_cl C_compare_hands (hr.mono (by decide)) hgd (by rfl) (pa_cons (pv 1) (pa_cons (pv 2) (pa_cons (pv 6) (pa_cons (pv 7) pa_nil))))) pe_int (nomark _)) pss_never pss_nil) (pss_one (ps_for PassesOwn.never rfl (pi_list (pv 4)) (pg_name (i := 10) sc_law_hands_hold.nd rfl (Or.inl rfl)) (pss_cons (ps_set (i := 11) sc_law_hands_hold.nd rfl (Or.inl rfl) (pe_cl C_law_compared (hr.mono (by decide)) hgd (by rfl) (pa_cons (pv 6) (pa_cons (pv 10) pa_nil)))) (pss_one (ps_if (PW.pt (pw_or (pt_cmpR (r := rNeD K) (op_neD hr.units) (pe_cl C_compare_hands (hr.mono (by decide)) hgd (by rfl) (pa_cons (pv 1) (pa_cons (pv 2) (pa_cons (pv 6) (pa_cons (pv 10) pa_nil))))) (pv 11) (nomark _)) (pw_or1 (pt_cmpR (r := rNeD K) (op_neD hr.units) (pe_cl C_compare_hands (hr.mono (by decide)) hgd (by rfl) (pa_cons (pv 1) (pa_cons (pv 2) (pa_cons (pv 10) (pa_cons (pv 6) pa_nil))))) (pe_op op_sub pe_int (pv 11)) (nomark _))))) pss_never pss_nil))))))))) (pss_cons (ps_if (pt_cmpR op_lt (pe_callB (r := rLenS K) call_len_seq (by rfl) B.len_ PySem.boot_len (pa_cons (pv 3) pa_nil)) pe_int (nomark _)) (pss_one (ps_ret pe_bl)) pss_nil) (pss_cons (ps_set (i := 12) sc_law_hands_hold.nd rfl (Or.inl rfl) (pe_cl C_law_hand (hr.mono (by decide)) hgd (by rfl) (pa_cons (pv 0) (pa_cons (pv 3) (pa_cons (pe_op op_add pe_int (pe_cl C_law_draw (hr.mono (by decide)) hgd (by rfl) (pa_cons (pv 0) (pa_cons pe_int pa_nil)))) pa_nil))))) (pss_cons (ps_set (i := 13) sc_law_hands_hold.nd rfl (Or.inr rfl) (pe_callB (r := rSortX K (eT (eP PyData.int PyData.int))) (cr_sortedX (Nat.lt_of_le_of_lt (Nat.add_le_add_left (by decide : 64 ≤ 64) _) hr.units)) (by rfl) B.sorted_ (by decide +kernel) (pa_cons (pe_lc (own := [("row", 14)]) (g := _) (tt := tYes) rfl sc_law_hands_hold.nd (pi_list (pe_cl C_law_fives (hr.mono (by decide)) hgd (by rfl) (pa_cons (pv 12) pa_nil))) (blkOk_by (N := N_law_hands_hold) (sc := defScope s_law_hands_hold) (by decide +kernel)) (fun _ _ _ _ _ => (pg_name (i := 14) sc_law_hands_hold.nd rfl (by first | exact Or.inl rfl | exact Or.inr rfl))) (fun _ _ _ _ _ => pts_nil) (fun _ _ _ _ _ => (pv 14))) pa_nil))) (pss_cons (ps_set (i := 15) sc_law_hands_hold.nd rfl (Or.inl rfl) (pe_cl C_best_of (hr.mono (by decide)) hgd (by rfl) (pa_cons (pv 1) (pa_cons (pv 2) (pa_cons (pv 12) pa_nil))))) (pss_cons (ps_setLc (i := 16) (own := [("row", 14)]) (g := _) (tt := _) rfl sc_law_hands_hold.nd rfl rfl (sw_true rfl rfl rfl (by decide +kernel)) (pi_list (pv 13)) (blkOk_by (N := N_law_hands_hold) (sc := defScope s_law_hands_hold) (by decide +kernel)) (fun _ _ _ _ _ => (pg_name (i := 14) sc_law_hands_hold.nd rfl (by first | exact Or.inl rfl | exact Or.inr rfl))) (fun _ _ _ _ _ => (pts_one (pt_not (pt_truthK (K := K) (pe_lc (own := [("other", 10)]) (g := _) (tt := _) rfl sc_law_hands_hold.nd (pi_listK K (pv 13)) (blkOk_by rfl) (fun _ _ _ _ _ => (pg_name (i := 10) sc_law_hands_hold.nd rfl (by first | exact Or.inl rfl | exact Or.inr rfl))) (fun _ _ _ _ _ => (pts_one (pt_cmpR op_gt (pe_cl C_law_compared (hr.mono (by decide)) hgd (by rfl) (pa_cons (pv 10) (pa_cons (pv 14) pa_nil))) pe_int (nomark _)))) (fun _ _ _ _ _ => (pv 10))) (fun _ => rfl))))) (fun _ _ _ _ _ => (pv 14))) (pss_one (ps_ret (pe_and (pe_cmpR (r := rInL K false) (op_inLD (room65 hr)) (pv 15) (pv 13) (by rfl)) (pe_and (pe_cmpR op_gt (pe_callB (r := rLenS K) call_len_seq (by rfl) B.len_ PySem.boot_len (pa_cons (pv 16) pa_nil)) pe_int (nomark _)) (pe_one (pe_cmpR (r := rEqD K) (op_eqD hr.units) (pv 15) (pe_ix (r := rIxL K) ix_list (pv 16) pe_int (fun _ _ => rfl)) (nomark _)))))))))))))), fun vs Q => fn_draws (N := N_law_hands_hold) (fun ds d h => ?_) (fun B S a ds Φ h D hR => ?_) vs H Q E0⟩), hm, F.kp, F.binds fun _ _ _ _ _ _ us hl => match us, hl with | [_, _, _, _], _ => rfl⟩
  · obtain ⟨ranks, suits, pack, rfl, h0, h1, hΦ⟩ := h; rfl
  · obtain ⟨ranks, suits, pack, rfl, h0, h1, hΦ⟩ := h; simp
  · obtain ⟨ranks, suits, pack, rfl, h0, h1, hΦ⟩ := h
    have hpk : pack.Pairwise CardLt ∧ pack.length ≤ 78 := h1 ▸ ⟨packL_asc _ _, packL_sz h0⟩
    have hp5 : 5 ≤ pack.length := by have := pack_sz h0; have := packL_len ranks suits (by have := h0.1; omega) (by have := h0.2; omega); rw [h1]; omega
    show Ss _ _ [.mu false a (.any StOk), .da (PyData.int ranks), .da (PyData.int suits), .da ((eL (eP PyData.int PyData.int)) pack), .no, .no, .no, .no, .no, .no, .no, .no, .no, .no, .no, .no, .no] _ _
    refine s_seq (s_asgW (ew_L (el_lcW1 (xs := (List.range ((4 : Int)).toNat)) (ea := fun (i : Nat) => Itm.hard (PyData.int (i : Int))) (eb := (fun l : List (Int × Int) => PyData.tuple (l.map (eP PyData.int PyData.int)))) (R := fun (x1 : Nat) z => (fun z => (z.Pairwise CardLt ∧ z.length = ((5 : Int)).toNat ∧ ∀ c ∈ z, c ∈ (pack))) z) (ei_rng ed_int (by decide)) (by decide) (by simp) (fun _ _ x1 hx2 => ⟨_, rfl, (eg_name (by simp)), (ew_callWD (i := 0) (e := (fun l : List (Int × Int) => PyData.tuple (l.map (eP PyData.int PyData.int)))) (P3 := (fun z => (z.Pairwise CardLt ∧ z.length = ((5 : Int)).toNat ∧ ∀ c ∈ z, c ∈ (pack)))) (ds := [((eL (eP PyData.int PyData.int)) pack), (PyData.int (5 : Int))]) (ea_raw rfl (ea_cons (ed_var rfl) (ea_cons ed_int ea_nil))) rfl ⟨pack, (5 : Int), rfl, by exact hpk, by exact ⟨by decide, by omega⟩, fun z hz => ⟨z, hz, rfl⟩⟩)⟩))) (fun hands_v h_hands_v => s_le (ρ1 := [.mu false a (.any StOk), .da (PyData.int ranks), .da (PyData.int suits), .da ((eL (eP PyData.int PyData.int)) pack), .da ((eL (eT (eP PyData.int PyData.int))) hands_v), .no, .no, .no, .no, .no, .no, .no, .no, .no, .no, .no, .no]) (le_rfl rfl) ?_))
    try dsimp only at h_hands_v
    have hh := hands_ok h1 h_hands_v
    refine s_seq (s_forX (hands_v) (fun x => Itm.hard ((eT (eP PyData.int PyData.int)) x)) (ei_listX (ed_var rfl)) (fun i0 => [.mu false a (.any StOk), .da (PyData.int ranks), .da (PyData.int suits), .da ((eL (eP PyData.int PyData.int)) pack), .da ((eL (eT (eP PyData.int PyData.int))) hands_v), .no, .no, .no, .no, .no, .no, .no, .no, .no, .no, .no, .no]) (le_same (le_same (le_same (le_same (le_same (le_no (le_no (le_no (le_no (le_no (le_no (le_no (le_no (le_no (le_no (le_no (le_no le_nil))))))))))))))))) (fun T0 hT0 i0 x0 hx0 => ⟨_, [6], (eg_name (by simp)), ?_⟩) ?_)
    · show Ss _ _ [.mu false a (.any StOk), .da (PyData.int ranks), .da (PyData.int suits), .da ((eL (eP PyData.int PyData.int)) pack), .da ((eL (eT (eP PyData.int PyData.int))) hands_v), .no, .da ((eT (eP PyData.int PyData.int)) x0), .no, .no, .no, .no, .no, .no, .no, .no, .no, .no] _ _
      have hh0 := hh _ (List.mem_of_getElem? hx0)
      obtain ⟨turned_v, h_turned_v⟩ : ∃ z : (List (Int × Int)), z = (sortX (eP PyData.int PyData.int) ((x0).map fun (x3 : (Int × Int)) => ((x3).1, ((suits - (1 : Int)) - (x3).2)))) := ⟨_, rfl⟩
      refine s_seq (s_asg (ed_tupleL (ed_L (el_sortX (enc := (eP PyData.int PyData.int)) (ed_L (el_lcAX (xs := x0) (ea := fun x => Itm.hard ((eP PyData.int PyData.int) x)) (enc := (eP PyData.int PyData.int)) (fb := fun (x3 : (Int × Int)) => ((x3).1, ((suits - (1 : Int)) - (x3).2))) (ei_tupX (ed_var rfl)) (by rw [hh0.2]; decide) (by simp) (fun _ _ x3 hx3 => ⟨_, rfl, (eg_tup (egs_cons (eg_name (by simp)) (egs_cons (eg_name (by simp)) egs_nil))), (ed_tup (ds := [(PyData.int (x3).1), (PyData.int ((suits - (1 : Int)) - (x3).2))]) (ea_cons (ed_var rfl) (ea_cons (ed_I0 (ed_I0 (ed_var rfl) ed_int) (ed_var rfl)) ea_nil)))⟩))) (by first | exact pi_al _ | exact hd_al _) (by first | exact pi_so _ | exact hd_so) (by first | exact fun p _ => card_depth p | exact fun p _ => dep_of (f := eT (eP PyData.int PyData.int)) p)))) (s_le (ρ1 := [.mu false a (.any StOk), .da (PyData.int ranks), .da (PyData.int suits), .da ((eL (eP PyData.int PyData.int)) pack), .da ((eL (eT (eP PyData.int PyData.int))) hands_v), .no, .da ((eT (eP PyData.int PyData.int)) x0), .da ((eT (eP PyData.int PyData.int)) turned_v), .no, .no, .no, .no, .no, .no, .no, .no, .no]) (le_rfl (by subst h_turned_v; rfl)) ?_))
      have ht := turned_ok h_turned_v hh0.1 hh0.2
      refine s_seq (s_if (b := ((!decide ((ixG sortNames (placeH (x0))) = (ixG (sortNames) ((valF (x0))).1))) || (!decide ((ixG sortNames (placeH (turned_v))) = (ixG sortNames (placeH (x0))))))) (et_or (et_test (ed_neS (ed_call (ds := [(PyData.int ranks), (PyData.int suits), ((eT (eP PyData.int PyData.int)) x0)]) (ea_cons (ed_var rfl) (ea_cons (ed_var rfl) (ea_cons (ed_var rfl) ea_nil))) ⟨ranks, suits, x0, rfl, by assumption, by exact hh0.1, by exact hh0.2, rfl⟩) (ed_ixLX (f := PyData.str) (l := (sortNames)) (ed_call (ds := []) ea_nil ⟨rfl, rfl⟩) (ed_ixT (ed_call (ds := [((eT (eP PyData.int PyData.int)) x0)]) (ea_cons (ed_var rfl) ea_nil) ⟨x0, rfl, by exact hh0.2, rfl⟩) ed_int rfl) (by exact place_ix _)))) (fun hb4 => (et_test (ed_neS (ed_call (ds := [(PyData.int ranks), (PyData.int suits), ((eT (eP PyData.int PyData.int)) turned_v)]) (ea_cons (ed_var rfl) (ea_cons (ed_var rfl) (ea_cons (ed_var rfl) ea_nil))) ⟨ranks, suits, turned_v, rfl, by assumption, by exact ht.2.1, by exact ht.2.2, rfl⟩) (ed_call (ds := [(PyData.int ranks), (PyData.int suits), ((eT (eP PyData.int PyData.int)) x0)]) (ea_cons (ed_var rfl) (ea_cons (ed_var rfl) (ea_cons (ed_var rfl) ea_nil))) ⟨ranks, suits, x0, rfl, by assumption, by exact hh0.1, by exact hh0.2, rfl⟩))))) (fun hc0 => ?_) (fun hc0 => ?_))
      · exact absurd hc0 (by exact if_names ht.1)
      · refine s_next ?_
        refine s_seq (s_if (b := (!decide ((cmpV (valF (x0)) (valF (turned_v))) = (0 : Int)))) (et_test (ed_neI (ed_call (ds := [(PyData.int ranks), (PyData.int suits), ((eT (eP PyData.int PyData.int)) x0), ((eT (eP PyData.int PyData.int)) turned_v)]) (ea_cons (ed_var rfl) (ea_cons (ed_var rfl) (ea_cons (ed_var rfl) (ea_cons (ed_var rfl) ea_nil)))) ⟨ranks, suits, x0, turned_v, rfl, by assumption, by exact hh0.1, by exact hh0.2, by exact ht.2.1, by exact ht.2.2, rfl⟩) ed_int)) (fun hc1 => ?_) (fun hc1 => ?_))
        · exact absurd hc1 (by exact if_cmp0 ht.1)
        · refine s_next ?_
          refine (s_forX (hands_v) (fun x => Itm.hard ((eT (eP PyData.int PyData.int)) x)) (ei_listX (ed_var rfl)) (fun i1 => [.mu false a (.any StOk), .da (PyData.int ranks), .da (PyData.int suits), .da ((eL (eP PyData.int PyData.int)) pack), .da ((eL (eT (eP PyData.int PyData.int))) hands_v), .no, .da ((eT (eP PyData.int PyData.int)) x0), .da ((eT (eP PyData.int PyData.int)) turned_v), .no, .no, .no, .no, .no, .no, .no, .no, .no]) (le_same (le_same (le_same (le_same (le_same (le_no (le_same (le_same (le_no (le_no (le_no (le_no (le_no (le_no (le_no (le_no (le_no le_nil))))))))))))))))) (fun T1 hT1 i1 x1 hx1 => ⟨_, [10], (eg_name (by simp)), ?_⟩) ?_)
          · show Ss _ _ [.mu false a (.any StOk), .da (PyData.int ranks), .da (PyData.int suits), .da ((eL (eP PyData.int PyData.int)) pack), .da ((eL (eT (eP PyData.int PyData.int))) hands_v), .no, .da ((eT (eP PyData.int PyData.int)) x0), .da ((eT (eP PyData.int PyData.int)) turned_v), .no, .no, .da ((eT (eP PyData.int PyData.int)) x1), .no, .no, .no, .no, .no, .no] _ _
            have hh1 := hh _ (List.mem_of_getElem? hx1)
            refine s_seq (s_asg (ed_call (ds := [((eT (eP PyData.int PyData.int)) x0), ((eT (eP PyData.int PyData.int)) x1)]) (ea_cons (ed_var rfl) (ea_cons (ed_var rfl) ea_nil)) ⟨x0, x1, rfl, by exact hh0.2, by exact hh1.2, rfl⟩) (s_le (ρ1 := [.mu false a (.any StOk), .da (PyData.int ranks), .da (PyData.int suits), .da ((eL (eP PyData.int PyData.int)) pack), .da ((eL (eT (eP PyData.int PyData.int))) hands_v), .no, .da ((eT (eP PyData.int PyData.int)) x0), .da ((eT (eP PyData.int PyData.int)) turned_v), .no, .no, .da ((eT (eP PyData.int PyData.int)) x1), .da (PyData.int (cmpV (valF (x0)) (valF (x1)))), .no, .no, .no, .no, .no]) (le_rfl rfl) ?_))
            refine (s_if (b := ((!decide ((cmpV (valF (x0)) (valF (x1))) = (cmpV (valF (x0)) (valF (x1))))) || (!decide ((cmpV (valF (x1)) (valF (x0))) = ((0 : Int) - (cmpV (valF (x0)) (valF (x1)))))))) (et_or (et_test (ed_neI (ed_call (ds := [(PyData.int ranks), (PyData.int suits), ((eT (eP PyData.int PyData.int)) x0), ((eT (eP PyData.int PyData.int)) x1)]) (ea_cons (ed_var rfl) (ea_cons (ed_var rfl) (ea_cons (ed_var rfl) (ea_cons (ed_var rfl) ea_nil)))) ⟨ranks, suits, x0, x1, rfl, by assumption, by exact hh0.1, by exact hh0.2, by exact hh1.1, by exact hh1.2, rfl⟩) (ed_var rfl))) (fun hb5 => (et_test (ed_neI (ed_call (ds := [(PyData.int ranks), (PyData.int suits), ((eT (eP PyData.int PyData.int)) x1), ((eT (eP PyData.int PyData.int)) x0)]) (ea_cons (ed_var rfl) (ea_cons (ed_var rfl) (ea_cons (ed_var rfl) (ea_cons (ed_var rfl) ea_nil)))) ⟨ranks, suits, x1, x0, rfl, by assumption, by exact hh1.1, by exact hh1.2, by exact hh0.1, by exact hh0.2, rfl⟩) (ed_I0 ed_int (ed_var rfl)))))) (fun hc2 => ?_) (fun hc2 => ?_))
            · exact absurd hc2 (by exact if_cmp2 _ _)
            · refine s_next ?_
              exact s_end (le_same (le_same (le_same (le_same (le_same (le_no (le_same (le_same (le_no (le_no (le_no (le_no (le_no (le_no (le_no (le_no (le_no le_nil)))))))))))))))))
          exact s_end (le_same (le_same (le_same (le_same (le_same (le_no (le_no (le_no (le_no (le_no (le_no (le_no (le_no (le_no (le_no (le_no (le_no le_nil)))))))))))))))))
    refine s_seq (s_if (b := (decide (((pack).length : Int) < (7 : Int)))) (et_test (ed_B0 (ed_lenLX (ed_var rfl)) ed_int)) (fun hc3 => ?_) (fun hc3 => ?_))
    · exact s_retW (i := 0) (ew_det (f := PyData.bool) (x := true) ed_bl) rfl hR (fun x hx => by subst hx; exact hΦ _ rfl)
    · refine s_next ?_
      refine s_seq (s_asgW (ew_callW (i := 0) (e := (fun l : List (Int × Int) => PyData.tuple (l.map (eP PyData.int PyData.int)))) (P3 := fun (x13 : (List (Int × Int)) × Int × Unit) z => (z.Pairwise CardLt ∧ z.length = (x13.2.1).toNat ∧ ∀ c ∈ z, c ∈ (x13.1))) (ds := fun (x13 : (List (Int × Int)) × Int × Unit) => [((eL (eP PyData.int PyData.int)) x13.1), (PyData.int x13.2.1)]) (ewa_raw rfl (ewa_cons (ew_det (f := (fun l : List (Int × Int) => PyData.list (l.map (eP PyData.int PyData.int)))) (x := pack) (ed_var rfl)) (ewa_cons (ew_op (e := PyData.int) (F := (fun _ y7 => ((6 : Int) + y7))) (ew_det (f := PyData.int) (x := (6 : Int)) ed_int) (ew_drawD (i := 0) ed_int rfl rfl (by decide)) (fun x6 y7 hx8 hy9 _ _ _ ha10 hb11 => by have hx8 := Eq.symm hx8; subst hx8; exact (ed_I0 ha10 hb11))) ewa_nil))) rfl (fun x13 hx14 => ⟨x13.1, x13.2.1, rfl, by have e : x13.1 = pack := hx14.1; rw [e]; exact hpk, by exact pre67 hx14.1 hx14.2.1 hc3, fun z hz => ⟨z, hz, rfl⟩⟩)) (fun cards_v h_cards_v => s_le (ρ1 := [.mu false a (.any StOk), .da (PyData.int ranks), .da (PyData.int suits), .da ((eL (eP PyData.int PyData.int)) pack), .da ((eL (eT (eP PyData.int PyData.int))) hands_v), .no, .no, .no, .no, .no, .no, .no, .da ((eT (eP PyData.int PyData.int)) cards_v), .no, .no, .no, .no]) (le_rfl rfl) ?_))
      try dsimp only at h_cards_v
      have hcd := cards_ok h_cards_v
      have hco := pack_in h1 hcd.1 hcd.2.2
      obtain ⟨fives_v, h_fives_v⟩ : ∃ z : (List (List (Int × Int))), z = (sortX (eT (eP PyData.int PyData.int)) (((fivesL (cards_v))).map fun (x15 : (List (Int × Int))) => x15)) := ⟨_, rfl⟩
      refine s_seq (s_asg (ed_L (el_sortX (enc := (eT (eP PyData.int PyData.int))) (ed_L (el_lcAX (xs := (fivesL (cards_v))) (ea := fun x => Itm.hard ((eT (eP PyData.int PyData.int)) x)) (enc := (fun l : List (Int × Int) => PyData.tuple (l.map (eP PyData.int PyData.int)))) (fb := fun (x15 : (List (Int × Int))) => x15) (ei_listX (ed_call (ds := [((eT (eP PyData.int PyData.int)) cards_v)]) (ea_cons (ed_var rfl) ea_nil) ⟨cards_v, rfl, by exact hcd.2.1.2, rfl⟩)) (by have := fives_sz hcd.2.1.2; omega) (by simp) (fun _ _ x15 hx15 => ⟨_, rfl, (eg_name (by simp)), (ed_var rfl)⟩))) (by first | exact pi_al _ | exact hd_al _) (by first | exact pi_so _ | exact hd_so) (by first | exact fun p _ => card_depth p | exact fun p _ => dep_of (f := eT (eP PyData.int PyData.int)) p))) (s_le (ρ1 := [.mu false a (.any StOk), .da (PyData.int ranks), .da (PyData.int suits), .da ((eL (eP PyData.int PyData.int)) pack), .da ((eL (eT (eP PyData.int PyData.int))) hands_v), .no, .no, .no, .no, .no, .no, .no, .da ((eT (eP PyData.int PyData.int)) cards_v), .da ((eL (eT (eP PyData.int PyData.int))) fives_v), .no, .no, .no]) (le_rfl (by subst h_fives_v; rfl)) ?_))
      have hf : fives_v = sortX eH (fivesL cards_v) := h_fives_v.trans (by rw [List.map_id'])
      have hf5 := fives5 hf
      have hfl := fives_le hf hcd.2.1.2
      refine s_seq (s_asg (ed_call (ds := [(PyData.int ranks), (PyData.int suits), ((eT (eP PyData.int PyData.int)) cards_v)]) (ea_cons (ed_var rfl) (ea_cons (ed_var rfl) (ea_cons (ed_var rfl) ea_nil))) ⟨ranks, suits, cards_v, rfl, by assumption, by exact hco, by exact hcd.2.1, rfl⟩) (s_le (ρ1 := [.mu false a (.any StOk), .da (PyData.int ranks), .da (PyData.int suits), .da ((eL (eP PyData.int PyData.int)) pack), .da ((eL (eT (eP PyData.int PyData.int))) hands_v), .no, .no, .no, .no, .no, .no, .no, .da ((eT (eP PyData.int PyData.int)) cards_v), .da ((eL (eT (eP PyData.int PyData.int))) fives_v), .no, .da ((eT (eP PyData.int PyData.int)) ((bestO (cards_v) (setsF (cards_v).length 5)).getD default)), .no]) (le_rfl rfl) ?_))
      refine s_seq (s_asg (ed_L (el_lcPX (xs := fives_v) (ea := fun x => Itm.hard ((eT (eP PyData.int PyData.int)) x)) (p := fun (x16 : (List (Int × Int))) => (!(!((((fives_v).filter fun (x17 : (List (Int × Int))) => (decide ((0 : Int) < (cmpV (valF (x17)) (valF (x16)))))).map fun (x17 : (List (Int × Int))) => x17)).isEmpty))) (enc := (fun l : List (Int × Int) => PyData.tuple (l.map (eP PyData.int PyData.int)))) (fb := fun (x16 : (List (Int × Int))) => x16) (ei_listX (ed_var rfl)) (by omega) (by simp) (fun _ _ x16 hx16 => ⟨_, rfl, (eg_name (by simp)), (et_not (et_truL (ed_L (el_lcPX (xs := fives_v) (ea := fun x => Itm.hard ((eT (eP PyData.int PyData.int)) x)) (p := fun (x17 : (List (Int × Int))) => (decide ((0 : Int) < (cmpV (valF (x17)) (valF (x16)))))) (enc := (fun l : List (Int × Int) => PyData.tuple (l.map (eP PyData.int PyData.int)))) (fb := fun (x17 : (List (Int × Int))) => x17) (ei_listX (ed_var rfl)) (by omega) (by simp) (fun _ _ x17 hx17 => ⟨_, rfl, (eg_name (by simp)), (et_test (ed_B0 (ed_call (ds := [((eT (eP PyData.int PyData.int)) x17), ((eT (eP PyData.int PyData.int)) x16)]) (ea_cons (ed_var rfl) (ea_cons (ed_var rfl) ea_nil)) ⟨x17, x16, rfl, by exact hf5 _ (by assumption), by exact hf5 _ (by assumption), rfl⟩) ed_int)), fun hp18 => (ed_var rfl)⟩))))), fun hp19 => (ed_var rfl)⟩))) (s_le (ρ1 := [.mu false a (.any StOk), .da (PyData.int ranks), .da (PyData.int suits), .da ((eL (eP PyData.int PyData.int)) pack), .da ((eL (eT (eP PyData.int PyData.int))) hands_v), .no, .no, .no, .no, .no, .no, .no, .da ((eT (eP PyData.int PyData.int)) cards_v), .da ((eL (eT (eP PyData.int PyData.int))) fives_v), .no, .da ((eT (eP PyData.int PyData.int)) ((bestO (cards_v) (setsF (cards_v).length 5)).getD default)), .da ((eL (eT (eP PyData.int PyData.int))) (((fives_v).filter fun (x16 : (List (Int × Int))) => (!(!((((fives_v).filter fun (x17 : (List (Int × Int))) => (decide ((0 : Int) < (cmpV (valF (x17)) (valF (x16)))))).map fun (x17 : (List (Int × Int))) => x17)).isEmpty))).map fun (x16 : (List (Int × Int))) => x16))]) (le_rfl rfl) ?_))
      exact s_retW (i := 0) (ew_det (f := PyData.bool) (x := ((decide (((bestO (cards_v) (setsF (cards_v).length 5)).getD default) ∈ fives_v)) && ((decide ((0 : Int) < (((((fives_v).filter fun (x16 : (List (Int × Int))) => (!(!((((fives_v).filter fun (x17 : (List (Int × Int))) => (decide ((0 : Int) < (cmpV (valF (x17)) (valF (x16)))))).map fun (x17 : (List (Int × Int))) => x17)).isEmpty))).map fun (x16 : (List (Int × Int))) => x16)).length : Int))) && (PyData.eqv ((eT (eP PyData.int PyData.int)) ((bestO (cards_v) (setsF (cards_v).length 5)).getD default)) ((eT (eP PyData.int PyData.int)) (ixG (((fives_v).filter fun (x16 : (List (Int × Int))) => (!(!((((fives_v).filter fun (x17 : (List (Int × Int))) => (decide ((0 : Int) < (cmpV (valF (x17)) (valF (x16)))))).map fun (x17 : (List (Int × Int))) => x17)).isEmpty))).map fun (x16 : (List (Int × Int))) => x16) (0 : Int))))))) (ed_and (ed_is (ed_inLD (neg := false) (ed_var rfl) (ed_var rfl) (by first | exact sh_of (f := eT (eP PyData.int PyData.int)) _ | exact sh_of (f := eL (eT (eP PyData.int PyData.int))) _) (by first | exact sh_of (f := eT (eP PyData.int PyData.int)) _ | exact sh_of (f := eL (eT (eP PyData.int PyData.int))) _)) (by exact (in_data (f := (eT (eP PyData.int PyData.int))) _ _).trans (by congr) : _ = PyData.bool (decide (((bestO (cards_v) (setsF (cards_v).length 5)).getD default) ∈ fives_v)))) (fun hb21 => (ed_and (ed_B0 (ed_lenLX (ed_var rfl)) ed_int) (fun hb20 => (ed_eq (ed_var rfl) (ed_ixLX (f := (fun l : List (Int × Int) => PyData.tuple (l.map (eP PyData.int PyData.int)))) (l := (((fives_v).filter fun (x16 : (List (Int × Int))) => (!(!((((fives_v).filter fun (x17 : (List (Int × Int))) => (decide ((0 : Int) < (cmpV (valF (x17)) (valF (x16)))))).map fun (x17 : (List (Int × Int))) => x17)).isEmpty))).map fun (x16 : (List (Int × Int))) => x16)) (ed_var rfl) ed_int (by exact inb ⟨by decide, of_decide_eq_true (by assumption)⟩)) (by first | exact sh_of (f := eT (eP PyData.int PyData.int)) _ | exact sh_of (f := eL (eT (eP PyData.int PyData.int))) _) (by first | exact sh_of (f := eT (eP PyData.int PyData.int)) _ | exact sh_of (f := eL (eT (eP PyData.int PyData.int))) _))))))) rfl hR (fun x hx => by subst hx; exact hΦ _ (hands_ret hf hcd.1 hcd.2.1 rfl (List.map_id' _)))

/-! ### _law_draws_hold -/
abbrev s_law_draws_hold : Stmt := topS 44
abbrev N_law_draws_hold : List Str := ["state", "ranks", "suits", "pack", "held_in", "some", "card", "one", "other", "place", "rest", "found", "firsts", "seconds", "counts", "k", "j", "at", "due", "count"]
theorem sc_law_draws_hold : FnScope N_law_draws_hold ["state", "ranks", "suits", "pack"] (defScope s_law_draws_hold) := ⟨rfl, rfl, rfl, by decide +kernel, rfl, by decide +kernel, by decide +kernel⟩
def R_law_draws_hold : List PyData → (PyData → Prop) → Prop := fun ds Φ => ∃ (ranks : Int) (suits : Int) (pack : (List (Int × Int))), ds = [(PyData.int ranks), (PyData.int suits), ((eL (eP PyData.int PyData.int)) pack)] ∧ (PackOk ranks suits) ∧ (pack = packL ranks suits) ∧ ∀ z : Bool, z = true → Φ (PyData.bool z)
set_option maxHeartbeats 4000000 in
theorem ok_law_draws_hold {P : Program} {w : World} {K : PySem.W.Frag} {mg : Str → Option Value} {base : Heap} (B : Gb K mg) (F : Fd K mg "_law_draws_hold" s_law_draws_hold) (C_law_draw : Cl P w K mg base 1 "_law_draw" ["state", "many"] (SpW K R_draw)) (C_law_hand : Cl P w K mg base 3 "_law_hand" ["state", "pack", "many"] (SpW K R_law_hand)) (C_law_q : Cl P w K mg base 1 "_law_q" ["up", "down"] (SpP K R_law_q)) (C_law_same : Cl P w K mg base 1 "_law_same" ["actual", "due"] (SpP K R_law_same)) (C_law_value : Cl P w K mg base 1 "_law_value" ["hand"] (SpP K R_law_value)) (C_draws_to : Cl P w K mg base 4 "draws_to" ["ranks", "suits", "held"] (SpP K R_draws_to)) (C_duel_chance : Cl P w K mg base 4 "duel_chance" ["ranks", "suits", "first", "second"] (SpP K R_duel_chance)) : Cl P w K mg base 5 "_law_draws_hold" ["state", "ranks", "suits", "pack"] (SpW K R_law_draws_hold) := by
  have BG := B
  obtain ⟨f, fd, F, hm⟩ := F.ex
  refine ⟨f, fd, fnG_of (k := 4) F sc_law_draws_hold (spW_len fun ds d h => ?_) (fun cdv A outer s H hr hgd => ⟨_, (pss_cons (ps_if (pt_cmpR op_lt (pe_callB (r := rLenS K) call_len_seq (by rfl) B.len_ PySem.boot_len (pa_cons (pv 3) pa_nil)) pe_int (nomark _)) (pss_one (ps_ret pe_bl)) pss_nil) (pss_cons (ps_set (i := 4) sc_law_draws_hold.nd rfl (Or.inr rfl) (pe_cl C_law_hand (hr.mono (by decide)) hgd (by rfl) (pa_cons (pv 0) (pa_cons (pv 3) (pa_cons pe_int pa_nil))))) (pss_cons (ps_set (i := 5) sc_law_draws_hold.nd rfl (Or.inl rfl) (pe_callB (r := rSortX K (eP PyData.int (eP PyData.int PyData.int))) (cr_sortedX (Nat.lt_of_le_of_lt (Nat.add_le_add_left (by decide : 64 ≤ 64) _) hr.units)) (by rfl) B.sorted_ (by decide +kernel) (pa_cons (pe_lc (own := [("card", 6)]) (g := _) (tt := tYes) rfl sc_law_draws_hold.nd (pi_tup (pv 4)) (blkOk_by (N := N_law_draws_hold) (sc := defScope s_law_draws_hold) (by decide +kernel)) (fun _ _ _ _ _ => (pg_name (i := 6) sc_law_draws_hold.nd rfl (by first | exact Or.inl rfl | exact Or.inr rfl))) (fun _ _ _ _ _ => pts_nil) (fun _ _ _ _ _ => (pe_tupF (pa_cons (pe_cl C_law_draw (hr.mono (by decide)) hgd (by rfl) (pa_cons (pv 0) (pa_cons pe_int pa_nil))) (pa_cons (pv 6) pa_nil))))) pa_nil))) (pss_cons (ps_asg (pe_tupF (pa_cons (pe_callTy (r := rTupOf K) call_tupleF (by rfl) B.tuple_ PyProof.Rows.boot_tuple (pa_cons (pe_callB (r := rSortX K (eP PyData.int PyData.int)) (cr_sortedX (Nat.lt_of_le_of_lt (Nat.add_le_add_left (by decide : 64 ≤ 64) _) hr.units)) (by rfl) B.sorted_ (by decide +kernel) (pa_cons (pe_lc (own := [("place", 9), ("card", 6)]) (g := _) (tt := tYes) rfl sc_law_draws_hold.nd (pi_list (pe_slice sl_list (pv 5) po_none (po_some pe_int))) (blkOk_by (N := N_law_draws_hold) (sc := defScope s_law_draws_hold) (by decide +kernel)) (fun _ _ _ _ _ => (pg_tupB (K := K) (n := 2) rfl rfl (pgs_cons (pg_name (i := 9) sc_law_draws_hold.nd rfl (by first | exact Or.inl rfl | exact Or.inr rfl)) (pgs_cons (pg_name (i := 6) sc_law_draws_hold.nd rfl (by first | exact Or.inl rfl | exact Or.inr rfl)) pgs_nil)))) (fun _ _ _ _ _ => pts_nil) (fun _ _ _ _ _ => (pv 6))) pa_nil)) pa_nil)) (pa_cons (pe_callTy (r := rTupOf K) call_tupleF (by rfl) B.tuple_ PyProof.Rows.boot_tuple (pa_cons (pe_callB (r := rSortX K (eP PyData.int PyData.int)) (cr_sortedX (Nat.lt_of_le_of_lt (Nat.add_le_add_left (by decide : 64 ≤ 64) _) hr.units)) (by rfl) B.sorted_ (by decide +kernel) (pa_cons (pe_lc (own := [("place", 9), ("card", 6)]) (g := _) (tt := tYes) rfl sc_law_draws_hold.nd (pi_list (pe_slice sl_list (pv 5) (po_some pe_int) po_none)) (blkOk_by (N := N_law_draws_hold) (sc := defScope s_law_draws_hold) (by decide +kernel)) (fun _ _ _ _ _ => (pg_tupB (K := K) (n := 2) rfl rfl (pgs_cons (pg_name (i := 9) sc_law_draws_hold.nd rfl (by first | exact Or.inl rfl | exact Or.inr rfl)) (pgs_cons (pg_name (i := 6) sc_law_draws_hold.nd rfl (by first | exact Or.inl rfl | exact Or.inr rfl)) pgs_nil)))) (fun _ _ _ _ _ => pts_nil) (fun _ _ _ _ _ => (pv 6))) pa_nil)) pa_nil)) pa_nil))) (pg_tup rfl (pgs_cons (pg_name (i := 7) sc_law_draws_hold.nd rfl (Or.inr rfl)) (pgs_cons (pg_name (i := 8) sc_law_draws_hold.nd rfl (Or.inr rfl)) pgs_nil))) rfl) (pss_cons (ps_setLc (i := 10) (own := [("card", 6)]) (g := _) (tt := _) rfl sc_law_draws_hold.nd rfl rfl (sw_true rfl rfl rfl (by decide +kernel)) (pi_list (pv 3)) (blkOk_by (N := N_law_draws_hold) (sc := defScope s_law_draws_hold) (by decide +kernel)) (fun _ _ _ _ _ => (pg_name (i := 6) sc_law_draws_hold.nd rfl (by first | exact Or.inl rfl | exact Or.inr rfl))) (fun _ _ _ _ _ => (pts_one (pt_cmpR (r := rInT K true) (op_ninTD (room65 hr)) (pv 6) (pv 4) (by rfl)))) (fun _ _ _ _ _ => (pv 6))) (pss_cons (ps_set (i := 11) sc_law_draws_hold.nd rfl (Or.inl rfl) (pe_op op_rep (pe_lst (pa_cons pe_int pa_nil)) pe_int)) (pss_cons (ps_for PassesOwn.never rfl (pi_list (pv 3)) (pg_name (i := 6) sc_law_draws_hold.nd rfl (Or.inl rfl)) (pss_one (ps_if (pt_cmpR (r := rInT K true) (op_ninTD (room65 hr)) (pv 6) (pv 7) (by rfl)) (pss_cons (ps_set (i := 9) sc_law_draws_hold.nd rfl (Or.inl rfl) (pe_ix (r := rIxT K) ix_tup (pe_cl C_law_value (hr.mono (by decide)) hgd (by rfl) (pa_cons (pe_op (r := rCatF K) op_catF (pv 7) (pe_tupF (pa_cons (pv 6) pa_nil))) pa_nil)) pe_int (fun _ _ => rfl))) (pss_one (ps_asg (pe_op op_add (pe_ix (r := rIxL K) ix_list (pv 11) (pv 9) (fun _ _ => rfl)) pe_int) (pg_sub (pv 11) (pv 9) set_list (fun _ => rfl)) rfl))) pss_nil))) (pss_cons (ps_if (pt_not (pt_truth (pe_cl C_law_same (hr.mono (by decide)) hgd (by rfl) (pa_cons (pe_cl C_draws_to (hr.mono (by decide)) hgd (by rfl) (pa_cons (pv 1) (pa_cons (pv 2) (pa_cons (pv 7) pa_nil)))) (pa_cons (pe_callTy (r := rTupOf K) call_tupleF (by rfl) B.tuple_ PyProof.Rows.boot_tuple (pa_cons (pv 11) pa_nil)) pa_nil))) (fun _ => rfl))) pss_never pss_nil) (pss_cons (ps_if (pt_cmpR op_gt (pe_callB (r := rLenS K) call_len_seq (by rfl) B.len_ PySem.boot_len (pa_cons (pv 10) pa_nil)) pe_int (nomark _)) (pss_one (ps_ret pe_bl)) pss_nil) (pss_cons (ps_par (i := 12) (j := 13) rfl sc_law_draws_hold.nd rfl rfl (by decide) rfl rfl (pa_cons (pe_lc (own := [("card", 6)]) (g := _) (tt := tYes) rfl sc_law_draws_hold.nd (pi_list (pv 10)) (blkOk_by (N := N_law_draws_hold) (sc := defScope s_law_draws_hold) (by decide +kernel)) (fun _ _ _ _ _ => (pg_name (i := 6) sc_law_draws_hold.nd rfl (by first | exact Or.inl rfl | exact Or.inr rfl))) (fun _ _ _ _ _ => pts_nil) (fun _ _ _ _ _ => (pe_cl C_law_value (hr.mono (by decide)) hgd (by rfl) (pa_cons (pe_op (r := rCatF K) op_catF (pv 7) (pe_tupF (pa_cons (pv 6) pa_nil))) pa_nil)))) (pa_cons (pe_lc (own := [("card", 6)]) (g := _) (tt := tYes) rfl sc_law_draws_hold.nd (pi_list (pv 10)) (blkOk_by (N := N_law_draws_hold) (sc := defScope s_law_draws_hold) (by decide +kernel)) (fun _ _ _ _ _ => (pg_name (i := 6) sc_law_draws_hold.nd rfl (by first | exact Or.inl rfl | exact Or.inr rfl))) (fun _ _ _ _ _ => pts_nil) (fun _ _ _ _ _ => (pe_cl C_law_value (hr.mono (by decide)) hgd (by rfl) (pa_cons (pe_op (r := rCatF K) op_catF (pv 8) (pe_tupF (pa_cons (pv 6) pa_nil))) pa_nil)))) pa_nil)) rfl rfl) (pss_cons (ps_set (i := 14) sc_law_draws_hold.nd rfl (Or.inr rfl) (pe_lst (pa_cons pe_int (pa_cons pe_int (pa_cons pe_int pa_nil))))) (pss_cons (ps_for PassesOwn.never rfl (pi_range1 (by rfl) B.range_ (pa_cons (pe_callB (r := rLenS K) call_len_seq (by rfl) B.len_ PySem.boot_len (pa_cons (pv 10) pa_nil)) pa_nil)) (pg_name (i := 15) sc_law_draws_hold.nd rfl (Or.inl rfl)) (pss_one (ps_for PassesOwn.never rfl (pi_range1 (by rfl) B.range_ (pa_cons (pe_callB (r := rLenS K) call_len_seq (by rfl) B.len_ PySem.boot_len (pa_cons (pv 10) pa_nil)) pa_nil)) (pg_name (i := 16) sc_law_draws_hold.nd rfl (Or.inl rfl)) (pss_one (ps_if (pt_cmpR (r := rNeD K) (op_neD hr.units) (pv 16) (pv 15) (nomark _)) (pss_cons (ps_set (i := 17) sc_law_draws_hold.nd rfl (Or.inl rfl) (pe_ifExp (pt_cmpR (r := rCmpD K (fun d e => PySem.W.dataLt e d)) (op_gtD hr.units) (pe_ix (r := rIxL K) ix_list (pv 12) (pv 15) (fun _ _ => rfl)) (pe_ix (r := rIxL K) ix_list (pv 13) (pv 16) (fun _ _ => rfl)) (nomark _)) pe_int (pe_ifExp (pt_cmpR (r := rEqD K) (op_eqD hr.units) (pe_ix (r := rIxL K) ix_list (pv 12) (pv 15) (fun _ _ => rfl)) (pe_ix (r := rIxL K) ix_list (pv 13) (pv 16) (fun _ _ => rfl)) (nomark _)) pe_int pe_int))) (pss_one (ps_asg (pe_op op_add (pe_ix (r := rIxL K) ix_list (pv 14) (pv 17) (fun _ _ => rfl)) pe_int) (pg_sub (pv 14) (pv 17) set_list (fun _ => rfl)) rfl))) pss_nil))))) (pss_cons (ps_set (i := 18) sc_law_draws_hold.nd rfl (Or.inl rfl) (pe_callTy (r := rTupOf K) call_tupleF (by rfl) B.tuple_ PyProof.Rows.boot_tuple (pa_cons (pe_lc (own := [("count", 19)]) (g := _) (tt := tYes) rfl sc_law_draws_hold.nd (pi_list (pv 14)) (blkOk_by (N := N_law_draws_hold) (sc := defScope s_law_draws_hold) (by decide +kernel)) (fun _ _ _ _ _ => (pg_name (i := 19) sc_law_draws_hold.nd rfl (by first | exact Or.inl rfl | exact Or.inr rfl))) (fun _ _ _ _ _ => pts_nil) (fun _ _ _ _ _ => (pe_cl C_law_q (hr.mono (by decide)) hgd (by rfl) (pa_cons (pv 19) (pa_cons (pe_callB (r := rSumT K) (cr_sumT rfl) (by rfl) B.sum_ (by decide +kernel) (pa_cons (pv 14) pa_nil)) pa_nil))))) pa_nil))) (pss_one (ps_ret (pe_cl C_law_same (hr.mono (by decide)) hgd (by rfl) (pa_cons (pe_lst (pa_cons (pe_cl C_duel_chance (hr.mono (by decide)) hgd (by rfl) (pa_cons (pv 1) (pa_cons (pv 2) (pa_cons (pv 7) (pa_cons (pv 8) pa_nil))))) (pa_cons (pe_cl C_duel_chance (hr.mono (by decide)) hgd (by rfl) (pa_cons (pv 1) (pa_cons (pv 2) (pa_cons (pv 8) (pa_cons (pv 7) pa_nil))))) pa_nil))) (pa_cons (pe_lst (pa_cons (pv 18) (pa_cons (pe_revT (pv 18)) pa_nil))) pa_nil)))))))))))))))))), fun vs Q => fn_draws (N := N_law_draws_hold) (fun ds d h => ?_) (fun B S a ds Φ h D hR => ?_) vs H Q E0⟩), hm, F.kp, F.binds fun _ _ _ _ _ _ us hl => match us, hl with | [_, _, _, _], _ => rfl⟩
  · obtain ⟨ranks, suits, pack, rfl, h0, h1, hΦ⟩ := h; rfl
  · obtain ⟨ranks, suits, pack, rfl, h0, h1, hΦ⟩ := h; simp
  · obtain ⟨ranks, suits, pack, rfl, h0, h1, hΦ⟩ := h
    have hpk : pack.Pairwise CardLt ∧ pack.length ≤ 78 := h1 ▸ ⟨packL_asc _ _, packL_sz h0⟩
    show Ss _ _ [.mu false a (.any StOk), .da (PyData.int ranks), .da (PyData.int suits), .da ((eL (eP PyData.int PyData.int)) pack), .no, .no, .no, .no, .no, .no, .no, .no, .no, .no, .no, .no, .no, .no, .no, .no] _ _
    refine s_seq (s_if (b := (decide (((pack).length : Int) < (10 : Int)))) (et_test (ed_B0 (ed_lenLX (ed_var rfl)) ed_int)) (fun hc0 => ?_) (fun hc0 => ?_))
    · exact s_retW (i := 0) (ew_det (f := PyData.bool) (x := true) ed_bl) rfl hR (fun x hx => by subst hx; exact hΦ _ rfl)
    · refine s_next ?_
      refine s_seq (s_asgW (ew_callWD (i := 0) (e := (fun l : List (Int × Int) => PyData.tuple (l.map (eP PyData.int PyData.int)))) (P3 := (fun z => (z.Pairwise CardLt ∧ z.length = ((8 : Int)).toNat ∧ ∀ c ∈ z, c ∈ (pack)))) (ds := [((eL (eP PyData.int PyData.int)) pack), (PyData.int (8 : Int))]) (ea_raw rfl (ea_cons (ed_var rfl) (ea_cons ed_int ea_nil))) rfl ⟨pack, (8 : Int), rfl, by exact hpk, by have := of_decide_eq_false hc0; exact ⟨by decide, by omega⟩, fun z hz => ⟨z, hz, rfl⟩⟩) (fun held_in_v h_held_in_v => s_le (ρ1 := [.mu false a (.any StOk), .da (PyData.int ranks), .da (PyData.int suits), .da ((eL (eP PyData.int PyData.int)) pack), .da ((eT (eP PyData.int PyData.int)) held_in_v), .no, .no, .no, .no, .no, .no, .no, .no, .no, .no, .no, .no, .no, .no, .no]) (le_rfl rfl) ?_))
      try dsimp only at h_held_in_v
      have hi := h_held_in_v
      have hil : held_in_v.length = 8 := hi.2.1
      refine s_seq (s_asgW (ew_L (ewl_cb1 (e := fun l : List (Int × (Int × Int)) => l.map (eP PyData.int (eP PyData.int PyData.int))) (F := (fun x4 => (sortX (eP PyData.int (eP PyData.int PyData.int)) x4))) (ew_L (el_lcW1 (xs := held_in_v) (ea := fun x => Itm.hard ((eP PyData.int PyData.int) x)) (eb := (eP PyData.int (eP PyData.int PyData.int))) (R := fun (x1 : (Int × Int)) z => (fun q3 => (fun x => 0 ≤ x ∧ x < (1000 : Int)) q3.1 ∧ (fun y => y = x1) q3.2) z) (ei_tupX (ed_var rfl)) (by omega) (by simp) (fun _ _ x1 hx2 => ⟨_, rfl, (eg_name (by simp)), (ew_as (g := (eP PyData.int (eP PyData.int PyData.int))) (R := (fun q3 => (fun x => 0 ≤ x ∧ x < (1000 : Int)) q3.1 ∧ (fun y => y = x1) q3.2)) (ew_tup (ds := fun p : Int × (Int × Int) × Unit => [(PyData.int p.1), ((eP PyData.int PyData.int) p.2.1)]) (n := 2) (ewa_cons (f := PyData.int) (P := (fun x => 0 ≤ x ∧ x < (1000 : Int))) (by exact (ew_drawD (i := 0) ed_int rfl rfl (by decide))) (ewa_cons (f := (eP PyData.int PyData.int)) (P := (fun y => y = x1)) (by exact (ew_det (f := (eP PyData.int PyData.int)) (x := x1) (ed_var rfl))) ewa_nil)) (fun _ => rfl)) (fun p hp => ⟨(p.1, p.2.1), ⟨hp.1, hp.2.1⟩, rfl⟩))⟩))) (fun x4 hx5 _ _ ha6 => (el_sortX (enc := (eP PyData.int (eP PyData.int PyData.int))) ha6 (by first | exact pi_al _ | exact dc_al _ | exact wl_al _ _) (by first | exact pi_so _ | exact dc_so _) (by first | exact fun p _ => card_depth p | exact fun p _ => dep_of (f := eP PyData.int (eP PyData.int PyData.int)) p))))) (fun some_v h_some_v => s_le (ρ1 := [.mu false a (.any StOk), .da (PyData.int ranks), .da (PyData.int suits), .da ((eL (eP PyData.int PyData.int)) pack), .da ((eT (eP PyData.int PyData.int)) held_in_v), .da ((eL (eP PyData.int (eP PyData.int PyData.int))) some_v), .no, .no, .no, .no, .no, .no, .no, .no, .no, .no, .no, .no, .no, .no]) (le_rfl rfl) ?_))
      try dsimp only at h_some_v
      have hs0 := some_perm (P := fun x => 0 ≤ x ∧ x < 1000) h_some_v
      have hsl : some_v.length = 8 := by have := hs0.length_eq; rw [List.length_map] at this; rw [this]; exact hil
      obtain ⟨one_v, h_one_v⟩ : ∃ z : (List (Int × Int)), z = (sortX (eP PyData.int PyData.int) (((cutX some_v none (some (4 : Int)))).map fun (x8 : (Int × (Int × Int))) => (x8).2)) := ⟨_, rfl⟩
      obtain ⟨other_v, h_other_v⟩ : ∃ z : (List (Int × Int)), z = (sortX (eP PyData.int PyData.int) (((cutX some_v (some (4 : Int)) none)).map fun (x9 : (Int × (Int × Int))) => (x9).2)) := ⟨_, rfl⟩
      refine s_seq (s_asgG (ws := [7, 8]) (ed_tup (ds := [((eT (eP PyData.int PyData.int)) (sortX (eP PyData.int PyData.int) (((cutX some_v none (some (4 : Int)))).map fun (x8 : (Int × (Int × Int))) => (x8).2))), ((eT (eP PyData.int PyData.int)) (sortX (eP PyData.int PyData.int) (((cutX some_v (some (4 : Int)) none)).map fun (x9 : (Int × (Int × Int))) => (x9).2)))]) (ea_cons (ed_tupleL (ed_L (el_sortX (enc := (eP PyData.int PyData.int)) (ed_L (el_lcAX (xs := (cutX some_v none (some (4 : Int)))) (ea := fun x => Itm.hard ((eP PyData.int (eP PyData.int PyData.int)) x)) (enc := (eP PyData.int PyData.int)) (fb := fun (x8 : (Int × (Int × Int))) => (x8).2) (ei_listX (ed_L (el_sliceX (ed_var rfl) eo_no (eo_some ed_int)))) (by exact Nat.le_trans (cutX_le _ _ _) (by omega)) (by simp) (fun _ _ x8 hx8 => ⟨_, rfl, (eg_tup (egs_cons (eg_name (by simp)) (egs_cons (eg_name (by simp)) egs_nil))), (ed_var rfl)⟩))) (by first | exact pi_al _ | exact dc_al _ | exact wl_al _ _) (by first | exact pi_so _ | exact dc_so _) (by first | exact fun p _ => card_depth p | exact fun p _ => dep_of (f := eP PyData.int (eP PyData.int PyData.int)) p)))) (ea_cons (ed_tupleL (ed_L (el_sortX (enc := (eP PyData.int PyData.int)) (ed_L (el_lcAX (xs := (cutX some_v (some (4 : Int)) none)) (ea := fun x => Itm.hard ((eP PyData.int (eP PyData.int PyData.int)) x)) (enc := (eP PyData.int PyData.int)) (fb := fun (x9 : (Int × (Int × Int))) => (x9).2) (ei_listX (ed_L (el_sliceX (ed_var rfl) (eo_some ed_int) eo_no))) (by exact Nat.le_trans (cutX_le _ _ _) (by omega)) (by simp) (fun _ _ x9 hx9 => ⟨_, rfl, (eg_tup (egs_cons (eg_name (by simp)) (egs_cons (eg_name (by simp)) egs_nil))), (ed_var rfl)⟩))) (by first | exact pi_al _ | exact dc_al _ | exact wl_al _ _) (by first | exact pi_so _ | exact dc_so _) (by first | exact fun p _ => card_depth p | exact fun p _ => dep_of (f := eP PyData.int (eP PyData.int PyData.int)) p)))) ea_nil))) (eg_tup (egs_cons (eg_name (by simp)) (egs_cons (eg_name (by simp)) egs_nil))) (s_le (ρ1 := [.mu false a (.any StOk), .da (PyData.int ranks), .da (PyData.int suits), .da ((eL (eP PyData.int PyData.int)) pack), .da ((eT (eP PyData.int PyData.int)) held_in_v), .da ((eL (eP PyData.int (eP PyData.int PyData.int))) some_v), .no, .da ((eT (eP PyData.int PyData.int)) one_v), .da ((eT (eP PyData.int PyData.int)) other_v), .no, .no, .no, .no, .no, .no, .no, .no, .no, .no, .no]) (le_rfl (by subst h_one_v h_other_v; rfl)) ?_))
      have hone := h_one_v
      have hs := split_ok h1 hi hs0 hone h_other_v
      obtain ⟨rest_v, h_rest_v⟩ : ∃ z : (List (Int × Int)), z = (((pack).filter fun (x10 : (Int × Int)) => (!decide (x10 ∈ held_in_v))).map fun (x10 : (Int × Int)) => x10) := ⟨_, rfl⟩
      refine s_seq (s_asg (ed_L (el_lcPX (xs := pack) (ea := fun x => Itm.hard ((eP PyData.int PyData.int) x)) (p := fun (x10 : (Int × Int)) => (!decide (x10 ∈ held_in_v))) (enc := (eP PyData.int PyData.int)) (fb := fun (x10 : (Int × Int)) => x10) (ei_listX (ed_var rfl)) (by omega) (by simp) (fun _ _ x10 hx10 => ⟨_, rfl, (eg_name (by simp)), (et_test (ed_is (ed_inTD (neg := true) (ed_var rfl) (ed_var rfl) (by first | exact sh_of (f := eT (eP PyData.int PyData.int)) _ | exact sh_of (f := eP PyData.int PyData.int) _ | exact sh_of (f := eP PyData.int (eL PyData.int)) _) (by first | exact sh_of (f := eT (eP PyData.int PyData.int)) _ | exact sh_of (f := eP PyData.int PyData.int) _ | exact sh_of (f := eP PyData.int (eL PyData.int)) _)) (by exact (nin_data (f := (eP PyData.int PyData.int)) _ _).trans (by congr) : _ = PyData.bool (!decide (x10 ∈ held_in_v))))), fun hp11 => (ed_var rfl)⟩))) (s_le (ρ1 := [.mu false a (.any StOk), .da (PyData.int ranks), .da (PyData.int suits), .da ((eL (eP PyData.int PyData.int)) pack), .da ((eT (eP PyData.int PyData.int)) held_in_v), .da ((eL (eP PyData.int (eP PyData.int PyData.int))) some_v), .no, .da ((eT (eP PyData.int PyData.int)) one_v), .da ((eT (eP PyData.int PyData.int)) other_v), .no, .da ((eL (eP PyData.int PyData.int)) rest_v), .no, .no, .no, .no, .no, .no, .no, .no, .no]) (le_rfl (by subst h_rest_v; rfl)) ?_))
      have hr := rest_is h1 hs.2.2.2 h_rest_v
      have hr2 := rest_two hpk.1 hi hc0 h_rest_v
      have hr78 : rest_v.length ≤ 78 := hr ▸ rest_sz h0 _ _
      have hrn := rest_nd hr
      refine s_seq (s_asgM (ds := ((List.replicate ((9 : Int)).toNat [(0 : Int)]).flatten).map PyData.int) (el_rep (el_lst (ds := [(0 : Int)].map PyData.int) (ea_cons ed_int ea_nil)) (fun _ _ => ed_int) (by simp)) (fun p_found12 => s_le (ρ1 := [.mu false a (.any StOk), .da (PyData.int ranks), .da (PyData.int suits), .da ((eL (eP PyData.int PyData.int)) pack), .da ((eT (eP PyData.int PyData.int)) held_in_v), .da ((eL (eP PyData.int (eP PyData.int PyData.int))) some_v), .no, .da ((eT (eP PyData.int PyData.int)) one_v), .da ((eT (eP PyData.int PyData.int)) other_v), .no, .da ((eL (eP PyData.int PyData.int)) rest_v), .mu true p_found12 (.lst ((List.replicate ((9 : Int)).toNat [(0 : Int)]).flatten.map PyData.int)), .no, .no, .no, .no, .no, .no, .no, .no]) (le_rfl rfl) ?_))
      refine s_seq (s_forX (pack) (fun x => Itm.hard ((eP PyData.int PyData.int) x)) (ei_listX (ed_var rfl)) (fun i0 => [.mu false a (.any StOk), .da (PyData.int ranks), .da (PyData.int suits), .da ((eL (eP PyData.int PyData.int)) pack), .da ((eT (eP PyData.int PyData.int)) held_in_v), .da ((eL (eP PyData.int (eP PyData.int PyData.int))) some_v), .no, .da ((eT (eP PyData.int PyData.int)) one_v), .da ((eT (eP PyData.int PyData.int)) other_v), .no, .da ((eL (eP PyData.int PyData.int)) rest_v), .mu true p_found12 (.lst ((drawsF one_v (pack.take i0)).map PyData.int)), .no, .no, .no, .no, .no, .no, .no, .no]) (le_same (le_same (le_same (le_same (le_same (le_same (le_no (le_same (le_same (le_no (le_same (le_mu (congrArg MO.lst (by rfl)) (le_no (le_no (le_no (le_no (le_no (le_no (le_no (le_no le_nil)))))))))))))))))))) (fun T0 hT0 i0 x0 hx0 => ⟨_, [6], (eg_name (by simp)), ?_⟩) ?_)
      · show Ss _ _ [.mu false a (.any StOk), .da (PyData.int ranks), .da (PyData.int suits), .da ((eL (eP PyData.int PyData.int)) pack), .da ((eT (eP PyData.int PyData.int)) held_in_v), .da ((eL (eP PyData.int (eP PyData.int PyData.int))) some_v), .da ((eP PyData.int PyData.int) x0), .da ((eT (eP PyData.int PyData.int)) one_v), .da ((eT (eP PyData.int PyData.int)) other_v), .no, .da ((eL (eP PyData.int PyData.int)) rest_v), .mu true p_found12 (.lst ((drawsF one_v (pack.take i0)).map PyData.int)), .no, .no, .no, .no, .no, .no, .no, .no] _ _
        refine (s_if (b := (!decide (x0 ∈ one_v))) (et_test (ed_is (ed_inTD (neg := true) (ed_var rfl) (ed_var rfl) (by first | exact sh_of (f := eT (eP PyData.int PyData.int)) _ | exact sh_of (f := eP PyData.int PyData.int) _ | exact sh_of (f := eP PyData.int (eL PyData.int)) _) (by first | exact sh_of (f := eT (eP PyData.int PyData.int)) _ | exact sh_of (f := eP PyData.int PyData.int) _ | exact sh_of (f := eP PyData.int (eL PyData.int)) _)) (by exact (nin_data (f := (eP PyData.int PyData.int)) _ _).trans (by congr) : _ = PyData.bool (!decide (x0 ∈ one_v))))) (fun hc1 => ?_) (fun hc1 => ?_))
        · refine s_seq (s_asg (ed_ixT (ed_call (ds := [((eT (eP PyData.int PyData.int)) (one_v ++ [x0]))]) (ea_cons (ed_catT (f := (eP PyData.int PyData.int)) (l := one_v) (m := [x0]) (ed_var rfl) (ed_tup (ds := [((eP PyData.int PyData.int) x0)]) (ea_cons (ed_var rfl) ea_nil)) (by first | (rw [hs.1.2]; simp) | (rw [hs.2.1.2]; simp))) ea_nil) ⟨(one_v ++ [x0]), rfl, by first | (rw [List.length_append, hs.1.2]; rfl) | (rw [List.length_append, hs.2.1.2]; rfl), rfl⟩) ed_int rfl) (s_le (ρ1 := [.mu false a (.any StOk), .da (PyData.int ranks), .da (PyData.int suits), .da ((eL (eP PyData.int PyData.int)) pack), .da ((eT (eP PyData.int PyData.int)) held_in_v), .da ((eL (eP PyData.int (eP PyData.int PyData.int))) some_v), .da ((eP PyData.int PyData.int) x0), .da ((eT (eP PyData.int PyData.int)) one_v), .da ((eT (eP PyData.int PyData.int)) other_v), .da (PyData.int (((valF ((one_v ++ [x0])))).1)), .da ((eL (eP PyData.int PyData.int)) rest_v), .mu true p_found12 (.lst ((drawsF one_v (pack.take i0)).map PyData.int)), .no, .no, .no, .no, .no, .no, .no, .no]) (le_rfl rfl) ?_))
          refine (s_setLX (f := PyData.int) (xs := (drawsF one_v (pack.take i0))) (x := ((ixG (drawsF one_v (pack.take i0)) ((valF ((one_v ++ [x0])))).1) + (1 : Int))) (ed_I0 (ed_ixMX (f := PyData.int) (xs := (drawsF one_v (pack.take i0))) (ed_var rfl) rfl ⟨_, _, rfl⟩ (by exact inb (by rw [drawsF_len]; exact place_rng _))) ed_int) (ed_var rfl) ⟨_, _, rfl⟩ rfl (by rw [drawsF_len]; exact place_rng _) (s_le (ρ1 := [.mu false a (.any StOk), .da (PyData.int ranks), .da (PyData.int suits), .da ((eL (eP PyData.int PyData.int)) pack), .da ((eT (eP PyData.int PyData.int)) held_in_v), .da ((eL (eP PyData.int (eP PyData.int PyData.int))) some_v), .da ((eP PyData.int PyData.int) x0), .da ((eT (eP PyData.int PyData.int)) one_v), .da ((eT (eP PyData.int PyData.int)) other_v), .da (PyData.int (((valF ((one_v ++ [x0])))).1)), .da ((eL (eP PyData.int PyData.int)) rest_v), .mu true p_found12 (.lst (((drawsF one_v (pack.take i0)).set (((valF ((one_v ++ [x0])))).1).toNat ((ixG (drawsF one_v (pack.take i0)) ((valF ((one_v ++ [x0])))).1) + (1 : Int))).map PyData.int)), .no, .no, .no, .no, .no, .no, .no, .no]) (le_same (le_same (le_same (le_same (le_same (le_same (le_same (le_same (le_same (le_same (le_same (le_mu (congrArg MO.lst (by simp)) (le_same (le_same (le_same (le_same (le_same (le_same (le_same (le_same le_nil)))))))))))))))))))) ?_))
          exact s_end (le_same (le_same (le_same (le_same (le_same (le_same (le_no (le_same (le_same (le_no (le_same (le_mu (congrArg MO.lst (by first | exact congrArg (List.map PyData.int) (ld_yes hx0 hc1) | exact congrArg (List.map PyData.int) (dr_no hx0 hc1))) (le_no (le_no (le_no (le_no (le_no (le_no (le_no (le_no le_nil))))))))))))))))))))
        · refine s_next ?_
          exact s_end (le_same (le_same (le_same (le_same (le_same (le_same (le_no (le_same (le_same (le_no (le_same (le_mu (congrArg MO.lst (by first | exact congrArg (List.map PyData.int) (ld_yes hx0 hc1) | exact congrArg (List.map PyData.int) (dr_no hx0 hc1))) (le_no (le_no (le_no (le_no (le_no (le_no (le_no (le_no le_nil))))))))))))))))))))
      refine s_le (ρ1 := [.mu false a (.any StOk), .da (PyData.int ranks), .da (PyData.int suits), .da ((eL (eP PyData.int PyData.int)) pack), .da ((eT (eP PyData.int PyData.int)) held_in_v), .da ((eL (eP PyData.int (eP PyData.int PyData.int))) some_v), .no, .da ((eT (eP PyData.int PyData.int)) one_v), .da ((eT (eP PyData.int PyData.int)) other_v), .no, .da ((eL (eP PyData.int PyData.int)) rest_v), .da ((eL PyData.int) (drawsF one_v (pack.take (pack).length))), .no, .no, .no, .no, .no, .no, .no, .no]) (le_same (le_same (le_same (le_same (le_same (le_same (le_no (le_same (le_same (le_no (le_same (le_frz (le_no (le_no (le_no (le_no (le_no (le_no (le_no (le_no le_nil)))))))))))))))))))) ?_
      refine s_seq (s_if (b := (!(true))) (et_not (et_truB (ed_call (ds := [((eT PyData.int) (drawsF (one_v) (packL (ranks) (suits)))), ((eT PyData.int) (drawsF one_v (pack.take (pack).length)))]) (ea_cons (ed_call (ds := [(PyData.int ranks), (PyData.int suits), ((eT (eP PyData.int PyData.int)) one_v)]) (ea_cons (ed_var rfl) (ea_cons (ed_var rfl) (ea_cons (ed_var rfl) ea_nil))) ⟨ranks, suits, one_v, rfl, by assumption, by exact hs.1.1, by exact hs.1.2, rfl⟩) (ea_cons (ed_tupleL (ed_var rfl)) ea_nil)) ⟨((eT PyData.int) (drawsF (one_v) (packL (ranks) (suits)))), ((eT PyData.int) (drawsF one_v (pack.take (pack).length))), rfl, by rw [List.take_length, h1], by exact draws_gd (packL_sz h0), rfl⟩))) (fun hc2 => ?_) (fun hc2 => ?_))
      · exact absurd hc2 (by decide)
      · refine s_next ?_
        refine s_seq (s_if (b := (decide ((24 : Int) < ((rest_v).length : Int)))) (et_test (ed_B0 (ed_lenLX (ed_var rfl)) ed_int)) (fun hc3 => ?_) (fun hc3 => ?_))
        · exact s_retW (i := 0) (ew_det (f := PyData.bool) (x := true) ed_bl) rfl hR (fun x hx => by subst hx; exact hΦ _ rfl)
        · refine s_next ?_
          obtain ⟨firsts_v, h_firsts_v⟩ : ∃ z : (List (Int × (List Int))), z = ((rest_v).map fun (x13 : (Int × Int)) => (valF ((one_v ++ [x13])))) := ⟨_, rfl⟩
          obtain ⟨seconds_v, h_seconds_v⟩ : ∃ z : (List (Int × (List Int))), z = ((rest_v).map fun (x14 : (Int × Int)) => (valF ((other_v ++ [x14])))) := ⟨_, rfl⟩
          refine s_seq (s_par (ea_cons (ed_L (el_lcAX (xs := rest_v) (ea := fun x => Itm.hard ((eP PyData.int PyData.int) x)) (enc := (eP PyData.int (eL PyData.int))) (fb := fun (x13 : (Int × Int)) => (valF ((one_v ++ [x13])))) (ei_listX (ed_var rfl)) (by omega) (by simp) (fun _ _ x13 hx13 => ⟨_, rfl, (eg_name (by simp)), (ed_call (ds := [((eT (eP PyData.int PyData.int)) (one_v ++ [x13]))]) (ea_cons (ed_catT (f := (eP PyData.int PyData.int)) (l := one_v) (m := [x13]) (ed_var rfl) (ed_tup (ds := [((eP PyData.int PyData.int) x13)]) (ea_cons (ed_var rfl) ea_nil)) (by first | (rw [hs.1.2]; simp) | (rw [hs.2.1.2]; simp))) ea_nil) ⟨(one_v ++ [x13]), rfl, by first | (rw [List.length_append, hs.1.2]; rfl) | (rw [List.length_append, hs.2.1.2]; rfl), rfl⟩)⟩))) (ea_cons (ed_L (el_lcAX (xs := rest_v) (ea := fun x => Itm.hard ((eP PyData.int PyData.int) x)) (enc := (eP PyData.int (eL PyData.int))) (fb := fun (x14 : (Int × Int)) => (valF ((other_v ++ [x14])))) (ei_listX (ed_var rfl)) (by omega) (by simp) (fun _ _ x14 hx14 => ⟨_, rfl, (eg_name (by simp)), (ed_call (ds := [((eT (eP PyData.int PyData.int)) (other_v ++ [x14]))]) (ea_cons (ed_catT (f := (eP PyData.int PyData.int)) (l := other_v) (m := [x14]) (ed_var rfl) (ed_tup (ds := [((eP PyData.int PyData.int) x14)]) (ea_cons (ed_var rfl) ea_nil)) (by first | (rw [hs.1.2]; simp) | (rw [hs.2.1.2]; simp))) ea_nil) ⟨(other_v ++ [x14]), rfl, by first | (rw [List.length_append, hs.1.2]; rfl) | (rw [List.length_append, hs.2.1.2]; rfl), rfl⟩)⟩))) ea_nil)) (s_le (ρ1 := [.mu false a (.any StOk), .da (PyData.int ranks), .da (PyData.int suits), .da ((eL (eP PyData.int PyData.int)) pack), .da ((eT (eP PyData.int PyData.int)) held_in_v), .da ((eL (eP PyData.int (eP PyData.int PyData.int))) some_v), .no, .da ((eT (eP PyData.int PyData.int)) one_v), .da ((eT (eP PyData.int PyData.int)) other_v), .no, .da ((eL (eP PyData.int PyData.int)) rest_v), .da ((eL PyData.int) (drawsF one_v (pack.take (pack).length))), .da ((eL (eP PyData.int (eL PyData.int))) firsts_v), .da ((eL (eP PyData.int (eL PyData.int))) seconds_v), .no, .no, .no, .no, .no, .no]) (le_rfl (by subst h_firsts_v h_seconds_v; rfl)) ?_))
          have hF := h_firsts_v
          have hFl : firsts_v.length = rest_v.length := by rw [hF, List.length_map]
          have hS := h_seconds_v
          have hSl : seconds_v.length = rest_v.length := by rw [hS, List.length_map]
          refine s_seq (s_asgM (ds := ([(0 : Int), (0 : Int), (0 : Int)]).map PyData.int) (el_lst (ds := [(0 : Int), (0 : Int), (0 : Int)].map PyData.int) (ea_cons ed_int (ea_cons ed_int (ea_cons ed_int ea_nil)))) (fun p_counts15 => s_le (ρ1 := [.mu false a (.any StOk), .da (PyData.int ranks), .da (PyData.int suits), .da ((eL (eP PyData.int PyData.int)) pack), .da ((eT (eP PyData.int PyData.int)) held_in_v), .da ((eL (eP PyData.int (eP PyData.int PyData.int))) some_v), .no, .da ((eT (eP PyData.int PyData.int)) one_v), .da ((eT (eP PyData.int PyData.int)) other_v), .no, .da ((eL (eP PyData.int PyData.int)) rest_v), .da ((eL PyData.int) (drawsF one_v (pack.take (pack).length))), .da ((eL (eP PyData.int (eL PyData.int))) firsts_v), .da ((eL (eP PyData.int (eL PyData.int))) seconds_v), .mu true p_counts15 (.lst ([(0 : Int), (0 : Int), (0 : Int)].map PyData.int)), .no, .no, .no, .no, .no]) (le_rfl rfl) ?_))
          refine s_seq (s_forX ((List.range (((rest_v).length : Int)).toNat)) (fun (i : Nat) => Itm.hard (PyData.int (i : Int))) (ei_rng (ed_lenLX (ed_var rfl)) (by omega)) (fun i1 => [.mu false a (.any StOk), .da (PyData.int ranks), .da (PyData.int suits), .da ((eL (eP PyData.int PyData.int)) pack), .da ((eT (eP PyData.int PyData.int)) held_in_v), .da ((eL (eP PyData.int (eP PyData.int PyData.int))) some_v), .no, .da ((eT (eP PyData.int PyData.int)) one_v), .da ((eT (eP PyData.int PyData.int)) other_v), .no, .da ((eL (eP PyData.int PyData.int)) rest_v), .da ((eL PyData.int) (drawsF one_v (pack.take (pack).length))), .da ((eL (eP PyData.int (eL PyData.int))) firsts_v), .da ((eL (eP PyData.int (eL PyData.int))) seconds_v), .mu true p_counts15 (.lst ((duelO one_v other_v rest_v (rest_v.take i1)).map PyData.int)), .no, .no, .no, .no, .no]) (le_same (le_same (le_same (le_same (le_same (le_same (le_no (le_same (le_same (le_no (le_same (le_same (le_same (le_same (le_mu (congrArg MO.lst (by rfl)) (le_no (le_no (le_no (le_no (le_no le_nil)))))))))))))))))))) (fun T1 hT1 i1 x1 hx1 => ⟨_, [15], (eg_name (by simp)), ?_⟩) ?_)
          · show Ss _ _ [.mu false a (.any StOk), .da (PyData.int ranks), .da (PyData.int suits), .da ((eL (eP PyData.int PyData.int)) pack), .da ((eT (eP PyData.int PyData.int)) held_in_v), .da ((eL (eP PyData.int (eP PyData.int PyData.int))) some_v), .no, .da ((eT (eP PyData.int PyData.int)) one_v), .da ((eT (eP PyData.int PyData.int)) other_v), .no, .da ((eL (eP PyData.int PyData.int)) rest_v), .da ((eL PyData.int) (drawsF one_v (pack.take (pack).length))), .da ((eL (eP PyData.int (eL PyData.int))) firsts_v), .da ((eL (eP PyData.int (eL PyData.int))) seconds_v), .mu true p_counts15 (.lst ((duelO one_v other_v rest_v (rest_v.take i1)).map PyData.int)), .da (PyData.int (x1 : Int)), .no, .no, .no, .no] _ _
            have hlt1 := (rng_get hx1).2
            refine s_le (ρ1 := [.mu false a (.any StOk), .da (PyData.int ranks), .da (PyData.int suits), .da ((eL (eP PyData.int PyData.int)) pack), .da ((eT (eP PyData.int PyData.int)) held_in_v), .da ((eL (eP PyData.int (eP PyData.int PyData.int))) some_v), .no, .da ((eT (eP PyData.int PyData.int)) one_v), .da ((eT (eP PyData.int PyData.int)) other_v), .no, .da ((eL (eP PyData.int PyData.int)) rest_v), .da ((eL PyData.int) (drawsF one_v (pack.take (pack).length))), .da ((eL (eP PyData.int (eL PyData.int))) firsts_v), .da ((eL (eP PyData.int (eL PyData.int))) seconds_v), .mu true p_counts15 (.lst ((duelO one_v other_v rest_v (rest_v.take i1)).map PyData.int)), .da (PyData.int (i1 : Int)), .no, .no, .no, .no]) (le_rfl (by rw [(rng_get hx1).1])) ?_
            have hk : i1 < rest_v.length := by omega
            refine (s_forX ((List.range (((rest_v).length : Int)).toNat)) (fun (i : Nat) => Itm.hard (PyData.int (i : Int))) (ei_rng (ed_lenLX (ed_var rfl)) (by omega)) (fun i2 => [.mu false a (.any StOk), .da (PyData.int ranks), .da (PyData.int suits), .da ((eL (eP PyData.int PyData.int)) pack), .da ((eT (eP PyData.int PyData.int)) held_in_v), .da ((eL (eP PyData.int (eP PyData.int PyData.int))) some_v), .no, .da ((eT (eP PyData.int PyData.int)) one_v), .da ((eT (eP PyData.int PyData.int)) other_v), .no, .da ((eL (eP PyData.int PyData.int)) rest_v), .da ((eL PyData.int) (drawsF one_v (pack.take (pack).length))), .da ((eL (eP PyData.int (eL PyData.int))) firsts_v), .da ((eL (eP PyData.int (eL PyData.int))) seconds_v), .mu true p_counts15 (.lst ((duelI one_v other_v (ixG rest_v (i1 : Int)) (duelO one_v other_v rest_v (rest_v.take i1)) (rest_v.take i2)).map PyData.int)), .da (PyData.int (i1 : Int)), .no, .no, .no, .no]) (le_same (le_same (le_same (le_same (le_same (le_same (le_no (le_same (le_same (le_no (le_same (le_same (le_same (le_same (le_mu (congrArg MO.lst (by rfl)) (le_same (le_no (le_no (le_no (le_no le_nil)))))))))))))))))))) (fun T2 hT2 i2 x2 hx2 => ⟨_, [16], (eg_name (by simp)), ?_⟩) ?_)
            · show Ss _ _ [.mu false a (.any StOk), .da (PyData.int ranks), .da (PyData.int suits), .da ((eL (eP PyData.int PyData.int)) pack), .da ((eT (eP PyData.int PyData.int)) held_in_v), .da ((eL (eP PyData.int (eP PyData.int PyData.int))) some_v), .no, .da ((eT (eP PyData.int PyData.int)) one_v), .da ((eT (eP PyData.int PyData.int)) other_v), .no, .da ((eL (eP PyData.int PyData.int)) rest_v), .da ((eL PyData.int) (drawsF one_v (pack.take (pack).length))), .da ((eL (eP PyData.int (eL PyData.int))) firsts_v), .da ((eL (eP PyData.int (eL PyData.int))) seconds_v), .mu true p_counts15 (.lst ((duelI one_v other_v (ixG rest_v (i1 : Int)) (duelO one_v other_v rest_v (rest_v.take i1)) (rest_v.take i2)).map PyData.int)), .da (PyData.int (i1 : Int)), .da (PyData.int (x2 : Int)), .no, .no, .no] _ _
              have hlt2 := (rng_get hx2).2
              refine s_le (ρ1 := [.mu false a (.any StOk), .da (PyData.int ranks), .da (PyData.int suits), .da ((eL (eP PyData.int PyData.int)) pack), .da ((eT (eP PyData.int PyData.int)) held_in_v), .da ((eL (eP PyData.int (eP PyData.int PyData.int))) some_v), .no, .da ((eT (eP PyData.int PyData.int)) one_v), .da ((eT (eP PyData.int PyData.int)) other_v), .no, .da ((eL (eP PyData.int PyData.int)) rest_v), .da ((eL PyData.int) (drawsF one_v (pack.take (pack).length))), .da ((eL (eP PyData.int (eL PyData.int))) firsts_v), .da ((eL (eP PyData.int (eL PyData.int))) seconds_v), .mu true p_counts15 (.lst ((duelI one_v other_v (ixG rest_v (i1 : Int)) (duelO one_v other_v rest_v (rest_v.take i1)) (rest_v.take i2)).map PyData.int)), .da (PyData.int (i1 : Int)), .da (PyData.int (i2 : Int)), .no, .no, .no]) (le_rfl (by rw [(rng_get hx2).1])) ?_
              have hj : i2 < rest_v.length := by omega
              refine (s_if (b := (!decide ((i2 : Int) = (i1 : Int)))) (et_test (ed_neI (ed_var rfl) (ed_var rfl))) (fun hc4 => ?_) (fun hc4 => ?_))
              · refine s_seq (s_asg (ed_ite (e := PyData.int) (et_test (ed_cmpD (f := fun d e => PySem.W.dataLt e d) (ed_ixLX (f := (eP PyData.int (eL PyData.int))) (l := firsts_v) (ed_var rfl) (ed_var rfl) (by exact inb (by rw [hFl]; omega))) (ed_ixLX (f := (eP PyData.int (eL PyData.int))) (l := seconds_v) (ed_var rfl) (ed_var rfl) (by exact inb (by rw [hSl]; omega))) (by first | exact pi_al _ | exact dc_al _ | exact wl_al _ _) (by intro h; cases h) (by exact wl_depth _))) (fun hb16 => ed_int) (fun hb16 => (ed_ite (e := PyData.int) (et_test (ed_eq (ed_ixLX (f := (eP PyData.int (eL PyData.int))) (l := firsts_v) (ed_var rfl) (ed_var rfl) (by exact inb (by rw [hFl]; omega))) (ed_ixLX (f := (eP PyData.int (eL PyData.int))) (l := seconds_v) (ed_var rfl) (ed_var rfl) (by exact inb (by rw [hSl]; omega))) (by first | exact sh_of (f := eT (eP PyData.int PyData.int)) _ | exact sh_of (f := eP PyData.int PyData.int) _ | exact sh_of (f := eP PyData.int (eL PyData.int)) _) (by first | exact sh_of (f := eT (eP PyData.int PyData.int)) _ | exact sh_of (f := eP PyData.int PyData.int) _ | exact sh_of (f := eP PyData.int (eL PyData.int)) _))) (fun hb17 => ed_int) (fun hb17 => ed_int)))) (s_le (ρ1 := [.mu false a (.any StOk), .da (PyData.int ranks), .da (PyData.int suits), .da ((eL (eP PyData.int PyData.int)) pack), .da ((eT (eP PyData.int PyData.int)) held_in_v), .da ((eL (eP PyData.int (eP PyData.int PyData.int))) some_v), .no, .da ((eT (eP PyData.int PyData.int)) one_v), .da ((eT (eP PyData.int PyData.int)) other_v), .no, .da ((eL (eP PyData.int PyData.int)) rest_v), .da ((eL PyData.int) (drawsF one_v (pack.take (pack).length))), .da ((eL (eP PyData.int (eL PyData.int))) firsts_v), .da ((eL (eP PyData.int (eL PyData.int))) seconds_v), .mu true p_counts15 (.lst ((duelI one_v other_v (ixG rest_v (i1 : Int)) (duelO one_v other_v rest_v (rest_v.take i1)) (rest_v.take i2)).map PyData.int)), .da (PyData.int (i1 : Int)), .da (PyData.int (i2 : Int)), .da (PyData.int (if (PySem.W.dataLt ((eP PyData.int (eL PyData.int)) (ixG seconds_v (i2 : Int))) ((eP PyData.int (eL PyData.int)) (ixG firsts_v (i1 : Int)))) = true then (0 : Int) else (if (PyData.eqv ((eP PyData.int (eL PyData.int)) (ixG firsts_v (i1 : Int))) ((eP PyData.int (eL PyData.int)) (ixG seconds_v (i2 : Int)))) = true then (1 : Int) else (2 : Int)))), .no, .no]) (le_rfl rfl) ?_))
                refine (s_setLX (f := PyData.int) (xs := (duelI one_v other_v (ixG rest_v (i1 : Int)) (duelO one_v other_v rest_v (rest_v.take i1)) (rest_v.take i2))) (x := ((ixG (duelI one_v other_v (ixG rest_v (i1 : Int)) (duelO one_v other_v rest_v (rest_v.take i1)) (rest_v.take i2)) (if (PySem.W.dataLt ((eP PyData.int (eL PyData.int)) (ixG seconds_v (i2 : Int))) ((eP PyData.int (eL PyData.int)) (ixG firsts_v (i1 : Int)))) = true then (0 : Int) else (if (PyData.eqv ((eP PyData.int (eL PyData.int)) (ixG firsts_v (i1 : Int))) ((eP PyData.int (eL PyData.int)) (ixG seconds_v (i2 : Int)))) = true then (1 : Int) else (2 : Int)))) + (1 : Int))) (ed_I0 (ed_ixMX (f := PyData.int) (xs := (duelI one_v other_v (ixG rest_v (i1 : Int)) (duelO one_v other_v rest_v (rest_v.take i1)) (rest_v.take i2))) (ed_var rfl) rfl ⟨_, _, rfl⟩ (by exact inb (by rw [duelI_len, duelO_len, cls_eqL]; exact cls_rng _ _))) ed_int) (ed_var rfl) ⟨_, _, rfl⟩ rfl (by rw [duelI_len, duelO_len, cls_eqL]; exact cls_rng _ _) (s_le (ρ1 := [.mu false a (.any StOk), .da (PyData.int ranks), .da (PyData.int suits), .da ((eL (eP PyData.int PyData.int)) pack), .da ((eT (eP PyData.int PyData.int)) held_in_v), .da ((eL (eP PyData.int (eP PyData.int PyData.int))) some_v), .no, .da ((eT (eP PyData.int PyData.int)) one_v), .da ((eT (eP PyData.int PyData.int)) other_v), .no, .da ((eL (eP PyData.int PyData.int)) rest_v), .da ((eL PyData.int) (drawsF one_v (pack.take (pack).length))), .da ((eL (eP PyData.int (eL PyData.int))) firsts_v), .da ((eL (eP PyData.int (eL PyData.int))) seconds_v), .mu true p_counts15 (.lst (((duelI one_v other_v (ixG rest_v (i1 : Int)) (duelO one_v other_v rest_v (rest_v.take i1)) (rest_v.take i2)).set ((if (PySem.W.dataLt ((eP PyData.int (eL PyData.int)) (ixG seconds_v (i2 : Int))) ((eP PyData.int (eL PyData.int)) (ixG firsts_v (i1 : Int)))) = true then (0 : Int) else (if (PyData.eqv ((eP PyData.int (eL PyData.int)) (ixG firsts_v (i1 : Int))) ((eP PyData.int (eL PyData.int)) (ixG seconds_v (i2 : Int)))) = true then (1 : Int) else (2 : Int)))).toNat ((ixG (duelI one_v other_v (ixG rest_v (i1 : Int)) (duelO one_v other_v rest_v (rest_v.take i1)) (rest_v.take i2)) (if (PySem.W.dataLt ((eP PyData.int (eL PyData.int)) (ixG seconds_v (i2 : Int))) ((eP PyData.int (eL PyData.int)) (ixG firsts_v (i1 : Int)))) = true then (0 : Int) else (if (PyData.eqv ((eP PyData.int (eL PyData.int)) (ixG firsts_v (i1 : Int))) ((eP PyData.int (eL PyData.int)) (ixG seconds_v (i2 : Int)))) = true then (1 : Int) else (2 : Int)))) + (1 : Int))).map PyData.int)), .da (PyData.int (i1 : Int)), .da (PyData.int (i2 : Int)), .da (PyData.int (if (PySem.W.dataLt ((eP PyData.int (eL PyData.int)) (ixG seconds_v (i2 : Int))) ((eP PyData.int (eL PyData.int)) (ixG firsts_v (i1 : Int)))) = true then (0 : Int) else (if (PyData.eqv ((eP PyData.int (eL PyData.int)) (ixG firsts_v (i1 : Int))) ((eP PyData.int (eL PyData.int)) (ixG seconds_v (i2 : Int)))) = true then (1 : Int) else (2 : Int)))), .no, .no]) (le_same (le_same (le_same (le_same (le_same (le_same (le_same (le_same (le_same (le_same (le_same (le_same (le_same (le_same (le_mu (congrArg MO.lst (by simp)) (le_same (le_same (le_same (le_same (le_same le_nil)))))))))))))))))))) ?_))
                exact s_end (le_same (le_same (le_same (le_same (le_same (le_same (le_no (le_same (le_same (le_no (le_same (le_same (le_same (le_same (le_mu (congrArg MO.lst (by first | exact congrArg (List.map PyData.int) (lw_yes hrn hk hj hc4 (by rw [cls_eqL, first_ix hF hk, first_ix hS hj])) | exact congrArg (List.map PyData.int) (lw_no hj hc4))) (le_same (le_no (le_no (le_no (le_no le_nil))))))))))))))))))))
              · refine s_next ?_
                exact s_end (le_same (le_same (le_same (le_same (le_same (le_same (le_no (le_same (le_same (le_no (le_same (le_same (le_same (le_same (le_mu (congrArg MO.lst (by first | exact congrArg (List.map PyData.int) (lw_yes hrn hk hj hc4 (by rw [cls_eqL, first_ix hF hk, first_ix hS hj])) | exact congrArg (List.map PyData.int) (lw_no hj hc4))) (le_same (le_no (le_no (le_no (le_no le_nil))))))))))))))))))))
            exact s_end (le_same (le_same (le_same (le_same (le_same (le_same (le_no (le_same (le_same (le_no (le_same (le_same (le_same (le_same (le_mu (congrArg MO.lst (by rw [rng_len]; exact congrArg (List.map PyData.int) (lw_out hk))) (le_no (le_no (le_no (le_no (le_no le_nil))))))))))))))))))))
          have hsum : (duelO one_v other_v rest_v (rest_v.take (List.range ((rest_v.length : Int)).toNat).length)).sum = (rest_v.length : Int) * ((rest_v.length : Int) - 1) := by rw [rng_len, List.take_length]; exact duel_sum hrn (by omega)
          refine s_le (ρ1 := [.mu false a (.any StOk), .da (PyData.int ranks), .da (PyData.int suits), .da ((eL (eP PyData.int PyData.int)) pack), .da ((eT (eP PyData.int PyData.int)) held_in_v), .da ((eL (eP PyData.int (eP PyData.int PyData.int))) some_v), .no, .da ((eT (eP PyData.int PyData.int)) one_v), .da ((eT (eP PyData.int PyData.int)) other_v), .no, .da ((eL (eP PyData.int PyData.int)) rest_v), .da ((eL PyData.int) (drawsF one_v (pack.take (pack).length))), .da ((eL (eP PyData.int (eL PyData.int))) firsts_v), .da ((eL (eP PyData.int (eL PyData.int))) seconds_v), .da ((eL PyData.int) (duelO one_v other_v rest_v (rest_v.take ((List.range (((rest_v).length : Int)).toNat)).length))), .no, .no, .no, .no, .no]) (le_same (le_same (le_same (le_same (le_same (le_same (le_no (le_same (le_same (le_no (le_same (le_same (le_same (le_same (le_frz (le_no (le_no (le_no (le_no (le_no le_nil)))))))))))))))))))) ?_
          obtain ⟨due_v, h_due_v⟩ : ∃ z : (List Rat), z = (((duelO one_v other_v rest_v (rest_v.take ((List.range (((rest_v).length : Int)).toNat)).length))).map fun (x18 : Int) => (Rat.divInt (x18) (((duelO one_v other_v rest_v (rest_v.take ((List.range (((rest_v).length : Int)).toNat)).length))).sum))) := ⟨_, rfl⟩
          refine s_seq (s_asg (ed_tupleL (ed_L (el_lcAX (xs := (duelO one_v other_v rest_v (rest_v.take ((List.range (((rest_v).length : Int)).toNat)).length))) (ea := fun x => Itm.hard (PyData.int x)) (enc := eQ) (fb := fun (x18 : Int) => (Rat.divInt (x18) (((duelO one_v other_v rest_v (rest_v.take ((List.range (((rest_v).length : Int)).toNat)).length))).sum))) (ei_listX (ed_var rfl)) (by rw [duelO_len]; decide) (by simp) (fun _ _ x18 hx18 => ⟨_, rfl, (eg_name (by simp)), (ed_call (ds := [(PyData.int x18), (PyData.int (((duelO one_v other_v rest_v (rest_v.take ((List.range (((rest_v).length : Int)).toNat)).length))).sum))]) (ea_cons (ed_var rfl) (ea_cons (ed_sumL (ed_var rfl)) ea_nil)) ⟨x18, ((duelO one_v other_v rest_v (rest_v.take ((List.range (((rest_v).length : Int)).toNat)).length))).sum, rfl, by rw [hsum]; exact two_nz hr2, by rw [hsum]; exact two_lt hr2 hr78, rfl⟩)⟩)))) (s_le (ρ1 := [.mu false a (.any StOk), .da (PyData.int ranks), .da (PyData.int suits), .da ((eL (eP PyData.int PyData.int)) pack), .da ((eT (eP PyData.int PyData.int)) held_in_v), .da ((eL (eP PyData.int (eP PyData.int PyData.int))) some_v), .no, .da ((eT (eP PyData.int PyData.int)) one_v), .da ((eT (eP PyData.int PyData.int)) other_v), .no, .da ((eL (eP PyData.int PyData.int)) rest_v), .da ((eL PyData.int) (drawsF one_v (pack.take (pack).length))), .da ((eL (eP PyData.int (eL PyData.int))) firsts_v), .da ((eL (eP PyData.int (eL PyData.int))) seconds_v), .da ((eL PyData.int) (duelO one_v other_v rest_v (rest_v.take ((List.range (((rest_v).length : Int)).toNat)).length))), .no, .no, .no, .da ((eT eQ) due_v), .no]) (le_rfl (by subst h_due_v; rfl)) ?_))
          rw [rng_len] at h_due_v
          have hd := h_due_v.trans (due_is hrn hr2)
          exact s_retW (i := 0) (ew_det (f := PyData.bool) (x := (true)) (ed_call (ds := [((eL (eT eQ)) [(duelF (one_v) (other_v) (restL (packL (ranks) (suits)) (one_v) (other_v))), (duelF (other_v) (one_v) (restL (packL (ranks) (suits)) (other_v) (one_v)))]), ((eL (eT eQ)) [due_v, (due_v).reverse])]) (ea_cons (ed_L (el_lst (ds := [(duelF (one_v) (other_v) (restL (packL (ranks) (suits)) (one_v) (other_v))), (duelF (other_v) (one_v) (restL (packL (ranks) (suits)) (other_v) (one_v)))].map (eT eQ)) (ea_cons (ed_call (ds := [(PyData.int ranks), (PyData.int suits), ((eT (eP PyData.int PyData.int)) one_v), ((eT (eP PyData.int PyData.int)) other_v)]) (ea_cons (ed_var rfl) (ea_cons (ed_var rfl) (ea_cons (ed_var rfl) (ea_cons (ed_var rfl) ea_nil)))) ⟨ranks, suits, one_v, other_v, rfl, by assumption, by exact hs.1, by exact hs.2.1, by exact hs.2.2.1, by exact hr ▸ hr2, rfl⟩) (ea_cons (ed_call (ds := [(PyData.int ranks), (PyData.int suits), ((eT (eP PyData.int PyData.int)) other_v), ((eT (eP PyData.int PyData.int)) one_v)]) (ea_cons (ed_var rfl) (ea_cons (ed_var rfl) (ea_cons (ed_var rfl) (ea_cons (ed_var rfl) ea_nil)))) ⟨ranks, suits, other_v, one_v, rfl, by assumption, by exact hs.2.1, by exact hs.1, by exact fun c h1 h2 => hs.2.2.1 c h2 h1, by rw [restL_comm (packL ranks suits) one_v other_v]; exact hr ▸ hr2, rfl⟩) ea_nil)))) (ea_cons (ed_L (el_lst (ds := [due_v, (due_v).reverse].map (eT eQ)) (ea_cons (ed_var rfl) (ea_cons (ed_revT (ed_var rfl)) ea_nil)))) ea_nil)) ⟨((eL (eT eQ)) [(duelF (one_v) (other_v) (restL (packL (ranks) (suits)) (one_v) (other_v))), (duelF (other_v) (one_v) (restL (packL (ranks) (suits)) (other_v) (one_v)))]), ((eL (eT eQ)) [due_v, (due_v).reverse]), rfl, by exact duels_eq hr hd, by exact duels_gd (hr ▸ hr2) h0, rfl⟩)) rfl hR (fun x hx => by subst hx; exact hΦ _ rfl)

/-! ### law -/
abbrev s_law : Stmt := topS 45
abbrev N_law : List Str := ["script", "state", "turn", "ranks", "suits", "pack", "counts", "whole", "at"]
theorem sc_law : FnScope N_law ["script"] (defScope s_law) := ⟨rfl, rfl, rfl, by decide +kernel, rfl, by decide +kernel, by decide +kernel⟩
def R_law : List PyData → PyData → Prop := fun ds d => ∃ (script : (List Int)), ds = [((eL PyData.int) script)] ∧ (script.length ≤ 100000) ∧ d = (PyData.bool (true))
set_option maxHeartbeats 4000000 in
theorem ok_law {P : Program} {w : World} {K : PySem.W.Frag} {mg : Str → Option Value} {base : Heap} (B : Gb K mg) {f : Addr} {fd : FuncData} (F : Fun K "law" "law" s_law f fd) (C_law_choose : Cl P w K mg base 1 "_law_choose" ["many", "few"] (SpP K R_law_choose)) (C_law_counts : Cl P w K mg base 2 "_law_counts" ["ranks", "suits"] (SpP K R_law_counts)) (C_law_draw : Cl P w K mg base 1 "_law_draw" ["state", "many"] (SpW K R_draw)) (C_law_draws_hold : Cl P w K mg base 5 "_law_draws_hold" ["state", "ranks", "suits", "pack"] (SpW K R_law_draws_hold)) (C_law_hands_hold : Cl P w K mg base 8 "_law_hands_hold" ["state", "ranks", "suits", "pack"] (SpW K R_law_hands_hold)) (C_law_pack : Cl P w K mg base 1 "_law_pack" ["ranks", "suits"] (SpP K R_law_pack)) (C_law_q : Cl P w K mg base 1 "_law_q" ["up", "down"] (SpP K R_law_q)) (C_law_same : Cl P w K mg base 1 "_law_same" ["actual", "due"] (SpP K R_law_same)) (C_law_sorts : Cl P w K mg base 1 "_law_sorts" [] (SpP K R_law_sorts)) (C_law_start : Cl P w K mg base 1 "_law_start" ["script"] (SpL K R_law_start)) (C_chance_of_sort : Cl P w K mg base 4 "chance_of_sort" ["ranks", "suits", "sort"] (SpP K R_chance_of_sort)) (C_count_sorts : Cl P w K mg base 3 "count_sorts" ["ranks", "suits"] (SpP K R_count_sorts)) : FnG P w K mg base 9 f fd ["script"] (SpP K R_top) := by
  have BG := B
  refine fnG_of (k := 8) F sc_law (spP_len fun ds d h => ?_) (fun cdv A outer s H hr hgd => ⟨_, (pss_cons (ps_set (i := 1) sc_law.nd rfl (Or.inl rfl) (pe_cl C_law_start (hr.mono (by decide)) hgd (by rfl) (pa_cons (pv 0) pa_nil))) (pss_cons (ps_for PassesOwn.never rfl (pi_range1 (by rfl) B.range_ (pa_cons pe_int pa_nil)) (pg_name (i := 2) sc_law.nd rfl (Or.inl rfl)) (pss_cons (ps_par (i := 3) (j := 4) rfl sc_law.nd rfl rfl (by decide) rfl rfl (pa_cons (pe_op op_add pe_int (pe_cl C_law_draw (hr.mono (by decide)) hgd (by rfl) (pa_cons (pv 1) (pa_cons pe_int pa_nil)))) (pa_cons (pe_op op_add pe_int (pe_cl C_law_draw (hr.mono (by decide)) hgd (by rfl) (pa_cons (pv 1) (pa_cons pe_int pa_nil)))) pa_nil)) rfl rfl) (pss_cons (ps_par (i := 5) (j := 6) rfl sc_law.nd rfl rfl (by decide) rfl rfl (pa_cons (pe_cl C_law_pack (hr.mono (by decide)) hgd (by rfl) (pa_cons (pv 3) (pa_cons (pv 4) pa_nil))) (pa_cons (pe_cl C_law_counts (hr.mono (by decide)) hgd (by rfl) (pa_cons (pv 3) (pa_cons (pv 4) pa_nil))) pa_nil)) rfl rfl) (pss_cons (ps_set (i := 7) sc_law.nd rfl (Or.inl rfl) (pe_cl C_law_choose (hr.mono (by decide)) hgd (by rfl) (pa_cons (pe_op op_mulG (pv 3) (pv 4)) (pa_cons pe_int pa_nil)))) (pss_cons (ps_if (PW.pt (pw_or (pt_not (pt_truth (pe_cl C_law_same (hr.mono (by decide)) hgd (by rfl) (pa_cons (pe_cl C_count_sorts (hr.mono (by decide)) hgd (by rfl) (pa_cons (pv 3) (pa_cons (pv 4) pa_nil))) (pa_cons (pv 6) pa_nil))) (fun _ => rfl))) (pw_or1 (pt_cmpR (r := rNeD K) (op_neD hr.units) (pe_callB (r := rSumT K) (cr_sumT rfl) (by rfl) B.sum_ (by decide +kernel) (pa_cons (pv 6) pa_nil)) (pv 7) (nomark _))))) pss_never pss_nil) (pss_cons (ps_set (i := 8) sc_law.nd rfl (Or.inl rfl) (pe_cl C_law_draw (hr.mono (by decide)) hgd (by rfl) (pa_cons (pv 1) (pa_cons pe_int pa_nil)))) (pss_cons (ps_if (pt_not (pt_truth (pe_cl C_law_same (hr.mono (by decide)) hgd (by rfl) (pa_cons (pe_cl C_chance_of_sort (hr.mono (by decide)) hgd (by rfl) (pa_cons (pv 3) (pa_cons (pv 4) (pa_cons (pe_ix (r := rIxL K) ix_list (pe_cl0 C_law_sorts (hr.mono (by decide)) hgd (by rfl)) (pv 8) (fun _ _ => rfl)) pa_nil)))) (pa_cons (pe_cl C_law_q (hr.mono (by decide)) hgd (by rfl) (pa_cons (pe_ix (r := rIxT K) ix_tup (pv 6) (pv 8) (fun _ _ => rfl)) (pa_cons (pv 7) pa_nil))) pa_nil))) (fun _ => rfl))) pss_never pss_nil) (pss_one (ps_if (PW.pt (pw_or (pt_not (pt_truth (pe_cl C_law_hands_hold (hr.mono (by decide)) hgd (by rfl) (pa_cons (pv 1) (pa_cons (pv 3) (pa_cons (pv 4) (pa_cons (pv 5) pa_nil))))) (fun _ => rfl))) (pw_or1 (pt_not (pt_truth (pe_cl C_law_draws_hold (hr.mono (by decide)) hgd (by rfl) (pa_cons (pv 1) (pa_cons (pv 3) (pa_cons (pv 4) (pa_cons (pv 5) pa_nil))))) (fun _ => rfl)))))) pss_never pss_nil))))))))) (pss_one (ps_ret pe_bl)))), fun vs Q => fn_pure (N := N_law) (fun ds d h => ?_) (fun B S ds d h D hR hN => ?_) vs H Q E0⟩)
  · obtain ⟨script, rfl, h0, rfl⟩ := h; rfl
  · obtain ⟨script, rfl, h0, rfl⟩ := h; simp
  · obtain ⟨script, rfl, h0, rfl⟩ := h
    show Ss _ _ [.da ((eL PyData.int) script), .no, .no, .no, .no, .no, .no, .no, .no] _ _
    refine s_seq (s_state (i := 1) (l := script) (s := seedOf script) (el_callL (ds := [((eL PyData.int) script)]) (ea_cons (ed_var rfl) ea_nil) ⟨_, rfl, by exact h0, rfl⟩) (fun p_state => s_le (ρ1 := [.da ((eL PyData.int) script), .mu true p_state (.any StOk), .no, .no, .no, .no, .no, .no, .no]) (le_rfl rfl) ?_))
    refine s_seq (s_forX ((List.range ((2 : Int)).toNat)) (fun (i : Nat) => Itm.hard (PyData.int (i : Int))) (ei_rng ed_int (by decide)) (fun i0 => [.da ((eL PyData.int) script), .mu true p_state (.any StOk), .no, .no, .no, .no, .no, .no, .no]) (le_same (le_same (le_no (le_no (le_no (le_no (le_no (le_no (le_no le_nil))))))))) (fun T0 hT0 i0 x0 hx0 => ⟨_, [2], (eg_name (by simp)), ?_⟩) ?_)
    · show Ss _ _ [.da ((eL PyData.int) script), .mu true p_state (.any StOk), .da (PyData.int (x0 : Int)), .no, .no, .no, .no, .no, .no] _ _
      refine s_seq (s_parW (ew_op (e := PyData.int) (F := (fun _ y2 => ((5 : Int) + y2))) (ew_det (f := PyData.int) (x := (5 : Int)) ed_int) (ew_drawD (i := 1) ed_int rfl rfl (by decide)) (fun x1 y2 hx3 hy4 _ _ _ ha5 hb6 => by have hx3 := Eq.symm hx3; subst hx3; exact (ed_I0 ha5 hb6))) (ew_op (e := PyData.int) (F := (fun _ y9 => ((1 : Int) + y9))) (ew_det (f := PyData.int) (x := (1 : Int)) ed_int) (ew_drawD (i := 1) ed_int rfl rfl (by decide)) (fun x8 y9 hx10 hy11 _ _ _ ha12 hb13 => by have hx10 := Eq.symm hx10; subst hx10; exact (ed_I0 ha12 hb13))) (fun ranks_v suits_v h_ranks_v h_suits_v => s_le (ρ1 := [.da ((eL PyData.int) script), .mu true p_state (.any StOk), .da (PyData.int (x0 : Int)), .da (PyData.int ranks_v), .da (PyData.int suits_v), .no, .no, .no, .no]) (le_rfl rfl) ?_))
      try dsimp only at h_ranks_v
      have hrk := ranks_ok h_ranks_v
      try dsimp only at h_suits_v
      have hst := suits_ok h_suits_v
      have hP : PackOk ranks_v suits_v := ⟨hrk, hst⟩
      have hps := pack_sz hP
      refine s_seq (s_par (ea_cons (ed_call (ds := [(PyData.int ranks_v), (PyData.int suits_v)]) (ea_cons (ed_var rfl) (ea_cons (ed_var rfl) ea_nil)) ⟨ranks_v, suits_v, rfl, by exact hP, rfl⟩) (ea_cons (ed_call (ds := [(PyData.int ranks_v), (PyData.int suits_v)]) (ea_cons (ed_var rfl) (ea_cons (ed_var rfl) ea_nil)) ⟨ranks_v, suits_v, rfl, by exact hP, rfl⟩) ea_nil)) (s_le (ρ1 := [.da ((eL PyData.int) script), .mu true p_state (.any StOk), .da (PyData.int (x0 : Int)), .da (PyData.int ranks_v), .da (PyData.int suits_v), .da ((eL (eP PyData.int PyData.int)) (packL (ranks_v) (suits_v))), .da (eI9 (lawF (ranks_v) (suits_v))), .no, .no]) (le_rfl rfl) ?_))
      refine s_seq (s_asg (ed_call (ds := [(PyData.int (ranks_v * suits_v)), (PyData.int (5 : Int))]) (ea_cons (ed_I (ed_var rfl) (ed_var rfl) (by first | exact mul_r (by omega) (by omega) | exact mul_l (by omega) (by omega))) (ea_cons ed_int ea_nil)) ⟨(ranks_v * suits_v), (5 : Int), rfl, by omega, by decide, rfl⟩) (s_le (ρ1 := [.da ((eL PyData.int) script), .mu true p_state (.any StOk), .da (PyData.int (x0 : Int)), .da (PyData.int ranks_v), .da (PyData.int suits_v), .da ((eL (eP PyData.int PyData.int)) (packL (ranks_v) (suits_v))), .da (eI9 (lawF (ranks_v) (suits_v))), .da (PyData.int (chI ((ranks_v * suits_v)) ((5 : Int)))), .no]) (le_rfl rfl) ?_))
      refine s_seq (s_if (b := ((!(true)) || (!decide (([((lawF (ranks_v) (suits_v))).1, ((lawF (ranks_v) (suits_v))).2.1, ((lawF (ranks_v) (suits_v))).2.2.1, ((lawF (ranks_v) (suits_v))).2.2.2.1, ((lawF (ranks_v) (suits_v))).2.2.2.2.1, ((lawF (ranks_v) (suits_v))).2.2.2.2.2.1, ((lawF (ranks_v) (suits_v))).2.2.2.2.2.2.1, ((lawF (ranks_v) (suits_v))).2.2.2.2.2.2.2.1, ((lawF (ranks_v) (suits_v))).2.2.2.2.2.2.2.2]).sum = (chI ((ranks_v * suits_v)) ((5 : Int))))))) (et_or (et_not (et_truB (ed_call (ds := [(eI9 (sortsF (ranks_v) (suits_v))), (eI9 (lawF (ranks_v) (suits_v)))]) (ea_cons (ed_call (ds := [(PyData.int ranks_v), (PyData.int suits_v)]) (ea_cons (ed_var rfl) (ea_cons (ed_var rfl) ea_nil)) ⟨ranks_v, suits_v, rfl, by exact hP, rfl⟩) (ea_cons (ed_var rfl) ea_nil)) ⟨(eI9 (sortsF (ranks_v) (suits_v))), (eI9 (lawF (ranks_v) (suits_v))), rfl, by exact congrArg eI9 (sorts_law hP).1, by exact sorts_gd hP, rfl⟩))) (fun hb15 => (et_test (ed_neI (ed_sumT (ed_is (ed_var rfl) (rfl : _ = ((eT PyData.int) [((lawF (ranks_v) (suits_v))).1, ((lawF (ranks_v) (suits_v))).2.1, ((lawF (ranks_v) (suits_v))).2.2.1, ((lawF (ranks_v) (suits_v))).2.2.2.1, ((lawF (ranks_v) (suits_v))).2.2.2.2.1, ((lawF (ranks_v) (suits_v))).2.2.2.2.2.1, ((lawF (ranks_v) (suits_v))).2.2.2.2.2.2.1, ((lawF (ranks_v) (suits_v))).2.2.2.2.2.2.2.1, ((lawF (ranks_v) (suits_v))).2.2.2.2.2.2.2.2])))) (ed_var rfl))))) (fun hc0 => ?_) (fun hc0 => ?_))
      · exact absurd hc0 (by exact if_whole hP)
      · refine s_next ?_
        refine s_seq (s_asgW (ew_drawD (i := 1) ed_int rfl rfl (by decide)) (fun at_v h_at_v => s_le (ρ1 := [.da ((eL PyData.int) script), .mu true p_state (.any StOk), .da (PyData.int (x0 : Int)), .da (PyData.int ranks_v), .da (PyData.int suits_v), .da ((eL (eP PyData.int PyData.int)) (packL (ranks_v) (suits_v))), .da (eI9 (lawF (ranks_v) (suits_v))), .da (PyData.int (chI ((ranks_v * suits_v)) ((5 : Int)))), .da (PyData.int at_v)]) (le_rfl rfl) ?_))
        try dsimp only at h_at_v
        have hat : 0 ≤ at_v ∧ at_v < 9 := h_at_v
        refine s_seq (s_if (b := (!(true))) (et_not (et_truB (ed_call (ds := [(eQ (Rat.divInt (ixG (l9 (sortsF (ranks_v) (suits_v))) ((sortNames.idxOf ((ixG (sortNames) at_v)) : Nat) : Int)) (chI ((ranks_v) * (suits_v)) 5))), (eQ (Rat.divInt ((ixG [((lawF (ranks_v) (suits_v))).1, ((lawF (ranks_v) (suits_v))).2.1, ((lawF (ranks_v) (suits_v))).2.2.1, ((lawF (ranks_v) (suits_v))).2.2.2.1, ((lawF (ranks_v) (suits_v))).2.2.2.2.1, ((lawF (ranks_v) (suits_v))).2.2.2.2.2.1, ((lawF (ranks_v) (suits_v))).2.2.2.2.2.2.1, ((lawF (ranks_v) (suits_v))).2.2.2.2.2.2.2.1, ((lawF (ranks_v) (suits_v))).2.2.2.2.2.2.2.2] at_v)) ((chI ((ranks_v * suits_v)) ((5 : Int))))))]) (ea_cons (ed_call (ds := [(PyData.int ranks_v), (PyData.int suits_v), (PyData.str (ixG (sortNames) at_v))]) (ea_cons (ed_var rfl) (ea_cons (ed_var rfl) (ea_cons (ed_ixLX (f := PyData.str) (l := (sortNames)) (ed_call (ds := []) ea_nil ⟨rfl, rfl⟩) (ed_var rfl) (by first | exact inb hat)) ea_nil))) ⟨ranks_v, suits_v, (ixG (sortNames) at_v), rfl, by exact hP, by exact name_in hat, rfl⟩) (ea_cons (ed_call (ds := [(PyData.int (ixG [((lawF (ranks_v) (suits_v))).1, ((lawF (ranks_v) (suits_v))).2.1, ((lawF (ranks_v) (suits_v))).2.2.1, ((lawF (ranks_v) (suits_v))).2.2.2.1, ((lawF (ranks_v) (suits_v))).2.2.2.2.1, ((lawF (ranks_v) (suits_v))).2.2.2.2.2.1, ((lawF (ranks_v) (suits_v))).2.2.2.2.2.2.1, ((lawF (ranks_v) (suits_v))).2.2.2.2.2.2.2.1, ((lawF (ranks_v) (suits_v))).2.2.2.2.2.2.2.2] at_v)), (PyData.int (chI ((ranks_v * suits_v)) ((5 : Int))))]) (ea_cons (ed_ixTX (f := PyData.int) (l := [((lawF (ranks_v) (suits_v))).1, ((lawF (ranks_v) (suits_v))).2.1, ((lawF (ranks_v) (suits_v))).2.2.1, ((lawF (ranks_v) (suits_v))).2.2.2.1, ((lawF (ranks_v) (suits_v))).2.2.2.2.1, ((lawF (ranks_v) (suits_v))).2.2.2.2.2.1, ((lawF (ranks_v) (suits_v))).2.2.2.2.2.2.1, ((lawF (ranks_v) (suits_v))).2.2.2.2.2.2.2.1, ((lawF (ranks_v) (suits_v))).2.2.2.2.2.2.2.2]) (ed_is (ed_var rfl) (rfl : _ = ((eT PyData.int) [((lawF (ranks_v) (suits_v))).1, ((lawF (ranks_v) (suits_v))).2.1, ((lawF (ranks_v) (suits_v))).2.2.1, ((lawF (ranks_v) (suits_v))).2.2.2.1, ((lawF (ranks_v) (suits_v))).2.2.2.2.1, ((lawF (ranks_v) (suits_v))).2.2.2.2.2.1, ((lawF (ranks_v) (suits_v))).2.2.2.2.2.2.1, ((lawF (ranks_v) (suits_v))).2.2.2.2.2.2.2.1, ((lawF (ranks_v) (suits_v))).2.2.2.2.2.2.2.2]))) (ed_var rfl) (by first | exact inb hat)) (ea_cons (ed_var rfl) ea_nil)) ⟨(ixG [((lawF (ranks_v) (suits_v))).1, ((lawF (ranks_v) (suits_v))).2.1, ((lawF (ranks_v) (suits_v))).2.2.1, ((lawF (ranks_v) (suits_v))).2.2.2.1, ((lawF (ranks_v) (suits_v))).2.2.2.2.1, ((lawF (ranks_v) (suits_v))).2.2.2.2.2.1, ((lawF (ranks_v) (suits_v))).2.2.2.2.2.2.1, ((lawF (ranks_v) (suits_v))).2.2.2.2.2.2.2.1, ((lawF (ranks_v) (suits_v))).2.2.2.2.2.2.2.2] at_v), (chI ((ranks_v * suits_v)) ((5 : Int))), rfl, by exact whole_nz hP, by exact whole_lt hP, rfl⟩) ea_nil)) ⟨(eQ (Rat.divInt (ixG (l9 (sortsF (ranks_v) (suits_v))) ((sortNames.idxOf ((ixG (sortNames) at_v)) : Nat) : Int)) (chI ((ranks_v) * (suits_v)) 5))), (eQ (Rat.divInt ((ixG [((lawF (ranks_v) (suits_v))).1, ((lawF (ranks_v) (suits_v))).2.1, ((lawF (ranks_v) (suits_v))).2.2.1, ((lawF (ranks_v) (suits_v))).2.2.2.1, ((lawF (ranks_v) (suits_v))).2.2.2.2.1, ((lawF (ranks_v) (suits_v))).2.2.2.2.2.1, ((lawF (ranks_v) (suits_v))).2.2.2.2.2.2.1, ((lawF (ranks_v) (suits_v))).2.2.2.2.2.2.2.1, ((lawF (ranks_v) (suits_v))).2.2.2.2.2.2.2.2] at_v)) ((chI ((ranks_v * suits_v)) ((5 : Int)))))), rfl, by exact congrArg eQ (chance_eq hP hat), by exact chance_gd hP hat, rfl⟩))) (fun hc1 => ?_) (fun hc1 => ?_))
        · exact absurd hc1 (by decide)
        · refine s_next ?_
          refine (s_ifW (A := (fun b => ((fun b => (fun z => z = true) (!b)) true ∧ b = true) ∨ ((fun b => (fun z => z = true) (!b)) false ∧ (fun b => (fun z => z = true) (!b)) b))) (ewt_or (ewt_not (ewt_tru (R := (fun z => z = true)) (ew_callWD (i := 1) (e := PyData.bool) (P3 := (fun z => z = true)) (ds := [(PyData.int ranks_v), (PyData.int suits_v), ((eL (eP PyData.int PyData.int)) (packL (ranks_v) (suits_v)))]) (ea_raw rfl (ea_cons (ed_var rfl) (ea_cons (ed_var rfl) (ea_cons (ed_var rfl) ea_nil)))) rfl ⟨ranks_v, suits_v, (packL (ranks_v) (suits_v)), rfl, by exact hP, by rfl, fun z hz => ⟨z, hz, rfl⟩⟩) (fun _ _ => rfl) (fun _ h => h))) (fun hb16 => (ewt_not (ewt_tru (R := (fun z => z = true)) (ew_callWD (i := 1) (e := PyData.bool) (P3 := (fun z => z = true)) (ds := [(PyData.int ranks_v), (PyData.int suits_v), ((eL (eP PyData.int PyData.int)) (packL (ranks_v) (suits_v)))]) (ea_raw rfl (ea_cons (ed_var rfl) (ea_cons (ed_var rfl) (ea_cons (ed_var rfl) ea_nil)))) rfl ⟨ranks_v, suits_v, (packL (ranks_v) (suits_v)), rfl, by exact hP, by rfl, fun z hz => ⟨z, hz, rfl⟩⟩) (fun _ _ => rfl) (fun _ h => h))))) (fun hc2 => ?_) (fun hc2 => ?_))
          · exfalso
            try dsimp only at hc2
            simp at hc2
          · try dsimp only at hc2
            refine s_next ?_
            exact s_end (le_same (le_same (le_no (le_no (le_no (le_no (le_no (le_no (le_no le_nil)))))))))
    exact s_retP (ew_det (f := PyData.bool) (x := true) ed_bl) (fun x hx => by subst hx; exact hR)


/-! ### what the top has written; the law -/
theorem all_mk {l : PySem.W.OpenLaw} {w : World} {K : PySem.W.Frag} {h : Heap} {mg : Str → Option Value} {fa f0 f1 f2 f3 f4 f5 f6 f7 f8 f9 f10 f11 f12 f13 f14 f15 f16 f17 f18 f19 f20 f21 f22 f23 f24 f25 f26 f27 f28 f29 f30 f31 f32 f33 f34 f35 f36 f37 f38 f39 f40 : Addr} {od0 an0 od1 an1 od2 an2 od3 an3 od4 an4 od5 an5 od6 an6 od7 an7 od8 an8 od9 an9 od10 an10 od11 an11 od12 an12 od13 an13 od14 an14 od15 an15 od16 an16 od17 an17 od18 an18 od19 an19 od20 an20 od21 an21 od22 an22 od23 an23 od24 an24 od25 an25 od26 an26 od27 an27 od28 an28 od29 an29 od30 an30 od31 an31 od32 an32 od33 an33 od34 an34 od35 an35 od36 an36 od37 an37 od38 an38 od39 an39 od40 an40 : Option Addr} {sl0 sl1 sl2 sl3 sl4 sl5 sl6 sl7 sl8 sl9 sl10 sl11 sl12 sl13 sl14 sl15 sl16 sl17 sl18 sl19 sl20 sl21 sl22 sl23 sl24 sl25 sl26 sl27 sl28 sl29 sl30 sl31 sl32 sl33 sl34 sl35 sl36 sl37 sl38 sl39 sl40 : Array (Option Value)} {oc0 kV0 dc0 pm0 cd0 ct0 oc1 kV1 dc1 pm1 cd1 ct1 oc2 kV2 dc2 pm2 cd2 ct2 oc3 kV3 dc3 pm3 cd3 ct3 oc4 kV4 dc4 pm4 cd4 ct4 oc5 kV5 dc5 pm5 cd5 ct5 oc6 kV6 dc6 pm6 cd6 ct6 oc7 kV7 dc7 pm7 cd7 ct7 oc8 kV8 dc8 pm8 cd8 ct8 oc9 kV9 dc9 pm9 cd9 ct9 oc10 kV10 dc10 pm10 cd10 ct10 oc11 kV11 dc11 pm11 cd11 ct11 oc12 kV12 dc12 pm12 cd12 ct12 oc13 kV13 dc13 pm13 cd13 ct13 oc14 kV14 dc14 pm14 cd14 ct14 oc15 kV15 dc15 pm15 cd15 ct15 oc16 kV16 dc16 pm16 cd16 ct16 oc17 kV17 dc17 pm17 cd17 ct17 oc18 kV18 dc18 pm18 cd18 ct18 oc19 kV19 dc19 pm19 cd19 ct19 oc20 kV20 dc20 pm20 cd20 ct20 oc21 kV21 dc21 pm21 cd21 ct21 oc22 kV22 dc22 pm22 cd22 ct22 oc23 kV23 dc23 pm23 cd23 ct23 oc24 kV24 dc24 pm24 cd24 ct24 oc25 kV25 dc25 pm25 cd25 ct25 oc26 kV26 dc26 pm26 cd26 ct26 oc27 kV27 dc27 pm27 cd27 ct27 oc28 kV28 dc28 pm28 cd28 ct28 oc29 kV29 dc29 pm29 cd29 ct29 oc30 kV30 dc30 pm30 cd30 ct30 oc31 kV31 dc31 pm31 cd31 ct31 oc32 kV32 dc32 pm32 cd32 ct32 oc33 kV33 dc33 pm33 cd33 ct33 oc34 kV34 dc34 pm34 cd34 ct34 oc35 kV35 dc35 pm35 cd35 ct35 oc36 kV36 dc36 pm36 cd36 ct36 oc37 kV37 dc37 pm37 cd37 ct37 oc38 kV38 dc38 pm38 cd38 ct38 oc39 kV39 dc39 pm39 cd39 ct39 oc40 kV40 dc40 pm40 cd40 ct40 : Value} (X : K.In h) (G : h.Ns mainGlobals mg) (hfa : mg "law" = some (.ref fa))
    (a0 : PySem.W.nsIn K mainGlobals "_law_start" = some (some (.ref f0))) (l0 : K.lookup f0 = some ⟨oc0, od0, .func (PySem.W.fnOf "_law_start" "_law_start" (defArgs s_law_start) (defBody s_law_start) (defScope s_law_start) .none kV0 dc0 pm0 an0 cd0 ct0), sl0⟩) (c0 : PySem.W.codeIn K cd0 "_law_start" = true) (k0 : PySem.W.keepIn K (.ref f0) = true)
    (a1 : PySem.W.nsIn K mainGlobals "_law_draw" = some (some (.ref f1))) (l1 : K.lookup f1 = some ⟨oc1, od1, .func (PySem.W.fnOf "_law_draw" "_law_draw" (defArgs s_law_draw) (defBody s_law_draw) (defScope s_law_draw) .none kV1 dc1 pm1 an1 cd1 ct1), sl1⟩) (c1 : PySem.W.codeIn K cd1 "_law_draw" = true) (k1 : PySem.W.keepIn K (.ref f1) = true)
    (a2 : PySem.W.nsIn K mainGlobals "_law_pick" = some (some (.ref f2))) (l2 : K.lookup f2 = some ⟨oc2, od2, .func (PySem.W.fnOf "_law_pick" "_law_pick" (defArgs s_law_pick) (defBody s_law_pick) (defScope s_law_pick) .none kV2 dc2 pm2 an2 cd2 ct2), sl2⟩) (c2 : PySem.W.codeIn K cd2 "_law_pick" = true) (k2 : PySem.W.keepIn K (.ref f2) = true)
    (a3 : PySem.W.nsIn K mainGlobals "is_integer" = some (some (.ref f3))) (l3 : K.lookup f3 = some ⟨oc3, od3, .func (PySem.W.fnOf "is_integer" "is_integer" (defArgs s_is_integer) (defBody s_is_integer) (defScope s_is_integer) .none kV3 dc3 pm3 an3 cd3 ct3), sl3⟩) (c3 : PySem.W.codeIn K cd3 "is_integer" = true) (k3 : PySem.W.keepIn K (.ref f3) = true)
    (a4 : PySem.W.nsIn K mainGlobals "greatest_divisor" = some (some (.ref f4))) (l4 : K.lookup f4 = some ⟨oc4, od4, .func (PySem.W.fnOf "greatest_divisor" "greatest_divisor" (defArgs s_greatest_divisor) (defBody s_greatest_divisor) (defScope s_greatest_divisor) .none kV4 dc4 pm4 an4 cd4 ct4), sl4⟩) (c4 : PySem.W.codeIn K cd4 "greatest_divisor" = true) (k4 : PySem.W.keepIn K (.ref f4) = true)
    (a5 : PySem.W.nsIn K mainGlobals "quotient" = some (some (.ref f5))) (l5 : K.lookup f5 = some ⟨oc5, od5, .func (PySem.W.fnOf "quotient" "quotient" (defArgs s_quotient) (defBody s_quotient) (defScope s_quotient) .none kV5 dc5 pm5 an5 cd5 ct5), sl5⟩) (c5 : PySem.W.codeIn K cd5 "quotient" = true) (k5 : PySem.W.keepIn K (.ref f5) = true)
    (a6 : PySem.W.nsIn K mainGlobals "choose" = some (some (.ref f6))) (l6 : K.lookup f6 = some ⟨oc6, od6, .func (PySem.W.fnOf "choose" "choose" (defArgs s_choose) (defBody s_choose) (defScope s_choose) .none kV6 dc6 pm6 an6 cd6 ct6), sl6⟩) (c6 : PySem.W.codeIn K cd6 "choose" = true) (k6 : PySem.W.keepIn K (.ref f6) = true)
    (a7 : PySem.W.nsIn K mainGlobals "check_pack" = some (some (.ref f7))) (l7 : K.lookup f7 = some ⟨oc7, od7, .func (PySem.W.fnOf "check_pack" "check_pack" (defArgs s_check_pack) (defBody s_check_pack) (defScope s_check_pack) .none kV7 dc7 pm7 an7 cd7 ct7), sl7⟩) (c7 : PySem.W.codeIn K cd7 "check_pack" = true) (k7 : PySem.W.keepIn K (.ref f7) = true)
    (a8 : PySem.W.nsIn K mainGlobals "is_card" = some (some (.ref f8))) (l8 : K.lookup f8 = some ⟨oc8, od8, .func (PySem.W.fnOf "is_card" "is_card" (defArgs s_is_card) (defBody s_is_card) (defScope s_is_card) .none kV8 dc8 pm8 an8 cd8 ct8), sl8⟩) (c8 : PySem.W.codeIn K cd8 "is_card" = true) (k8 : PySem.W.keepIn K (.ref f8) = true)
    (a9 : PySem.W.nsIn K mainGlobals "are_cards" = some (some (.ref f9))) (l9 : K.lookup f9 = some ⟨oc9, od9, .func (PySem.W.fnOf "are_cards" "are_cards" (defArgs s_are_cards) (defBody s_are_cards) (defScope s_are_cards) .none kV9 dc9 pm9 an9 cd9 ct9), sl9⟩) (c9 : PySem.W.codeIn K cd9 "are_cards" = true) (k9 : PySem.W.keepIn K (.ref f9) = true)
    (a10 : PySem.W.nsIn K mainGlobals "check_hand" = some (some (.ref f10))) (l10 : K.lookup f10 = some ⟨oc10, od10, .func (PySem.W.fnOf "check_hand" "check_hand" (defArgs s_check_hand) (defBody s_check_hand) (defScope s_check_hand) .none kV10 dc10 pm10 an10 cd10 ct10), sl10⟩) (c10 : PySem.W.codeIn K cd10 "check_hand" = true) (k10 : PySem.W.keepIn K (.ref f10) = true)
    (a11 : PySem.W.nsIn K mainGlobals "count_sorts" = some (some (.ref f11))) (l11 : K.lookup f11 = some ⟨oc11, od11, .func (PySem.W.fnOf "count_sorts" "count_sorts" (defArgs s_count_sorts) (defBody s_count_sorts) (defScope s_count_sorts) .none kV11 dc11 pm11 an11 cd11 ct11), sl11⟩) (c11 : PySem.W.codeIn K cd11 "count_sorts" = true) (k11 : PySem.W.keepIn K (.ref f11) = true)
    (a12 : PySem.W.nsIn K mainGlobals "shape_of" = some (some (.ref f12))) (l12 : K.lookup f12 = some ⟨oc12, od12, .func (PySem.W.fnOf "shape_of" "shape_of" (defArgs s_shape_of) (defBody s_shape_of) (defScope s_shape_of) .none kV12 dc12 pm12 an12 cd12 ct12), sl12⟩) (c12 : PySem.W.codeIn K cd12 "shape_of" = true) (k12 : PySem.W.keepIn K (.ref f12) = true)
    (a13 : PySem.W.nsIn K mainGlobals "sort_of" = some (some (.ref f13))) (l13 : K.lookup f13 = some ⟨oc13, od13, .func (PySem.W.fnOf "sort_of" "sort_of" (defArgs s_sort_of) (defBody s_sort_of) (defScope s_sort_of) .none kV13 dc13 pm13 an13 cd13 ct13), sl13⟩) (c13 : PySem.W.codeIn K cd13 "sort_of" = true) (k13 : PySem.W.keepIn K (.ref f13) = true)
    (a14 : PySem.W.nsIn K mainGlobals "sort_name" = some (some (.ref f14))) (l14 : K.lookup f14 = some ⟨oc14, od14, .func (PySem.W.fnOf "sort_name" "sort_name" (defArgs s_sort_name) (defBody s_sort_name) (defScope s_sort_name) .none kV14 dc14 pm14 an14 cd14 ct14), sl14⟩) (c14 : PySem.W.codeIn K cd14 "sort_name" = true) (k14 : PySem.W.keepIn K (.ref f14) = true)
    (a15 : PySem.W.nsIn K mainGlobals "worth" = some (some (.ref f15))) (l15 : K.lookup f15 = some ⟨oc15, od15, .func (PySem.W.fnOf "worth" "worth" (defArgs s_worth) (defBody s_worth) (defScope s_worth) .none kV15 dc15 pm15 an15 cd15 ct15), sl15⟩) (c15 : PySem.W.codeIn K cd15 "worth" = true) (k15 : PySem.W.keepIn K (.ref f15) = true)
    (a16 : PySem.W.nsIn K mainGlobals "compare_hands" = some (some (.ref f16))) (l16 : K.lookup f16 = some ⟨oc16, od16, .func (PySem.W.fnOf "compare_hands" "compare_hands" (defArgs s_compare_hands) (defBody s_compare_hands) (defScope s_compare_hands) .none kV16 dc16 pm16 an16 cd16 ct16), sl16⟩) (c16 : PySem.W.codeIn K cd16 "compare_hands" = true) (k16 : PySem.W.keepIn K (.ref f16) = true)
    (a17 : PySem.W.nsIn K mainGlobals "chance_of_sort" = some (some (.ref f17))) (l17 : K.lookup f17 = some ⟨oc17, od17, .func (PySem.W.fnOf "chance_of_sort" "chance_of_sort" (defArgs s_chance_of_sort) (defBody s_chance_of_sort) (defScope s_chance_of_sort) .none kV17 dc17 pm17 an17 cd17 ct17), sl17⟩) (c17 : PySem.W.codeIn K cd17 "chance_of_sort" = true) (k17 : PySem.W.keepIn K (.ref f17) = true)
    (a18 : PySem.W.nsIn K mainGlobals "all_cards" = some (some (.ref f18))) (l18 : K.lookup f18 = some ⟨oc18, od18, .func (PySem.W.fnOf "all_cards" "all_cards" (defArgs s_all_cards) (defBody s_all_cards) (defScope s_all_cards) .none kV18 dc18 pm18 an18 cd18 ct18), sl18⟩) (c18 : PySem.W.codeIn K cd18 "all_cards" = true) (k18 : PySem.W.keepIn K (.ref f18) = true)
    (a19 : PySem.W.nsIn K mainGlobals "draws_to" = some (some (.ref f19))) (l19 : K.lookup f19 = some ⟨oc19, od19, .func (PySem.W.fnOf "draws_to" "draws_to" (defArgs s_draws_to) (defBody s_draws_to) (defScope s_draws_to) .none kV19 dc19 pm19 an19 cd19 ct19), sl19⟩) (c19 : PySem.W.codeIn K cd19 "draws_to" = true) (k19 : PySem.W.keepIn K (.ref f19) = true)
    (a20 : PySem.W.nsIn K mainGlobals "sets_of" = some (some (.ref f20))) (l20 : K.lookup f20 = some ⟨oc20, od20, .func (PySem.W.fnOf "sets_of" "sets_of" (defArgs s_sets_of_0) (defBody s_sets_of_0) (defScope s_sets_of_0) .none kV20 dc20 pm20 an20 cd20 ct20), sl20⟩) (c20 : PySem.W.codeIn K cd20 "sets_of" = true) (k20 : PySem.W.keepIn K (.ref f20) = true)
    (a21 : PySem.W.nsIn K mainGlobals "sets_of" = some (some (.ref f21))) (l21 : K.lookup f21 = some ⟨oc21, od21, .func (PySem.W.fnOf "sets_of" "sets_of" (defArgs s_sets_of_1) (defBody s_sets_of_1) (defScope s_sets_of_1) .none kV21 dc21 pm21 an21 cd21 ct21), sl21⟩) (c21 : PySem.W.codeIn K cd21 "sets_of" = true) (k21 : PySem.W.keepIn K (.ref f21) = true)
    (a22 : PySem.W.nsIn K mainGlobals "sets_of" = some (some (.ref f22))) (l22 : K.lookup f22 = some ⟨oc22, od22, .func (PySem.W.fnOf "sets_of" "sets_of" (defArgs s_sets_of_2) (defBody s_sets_of_2) (defScope s_sets_of_2) .none kV22 dc22 pm22 an22 cd22 ct22), sl22⟩) (c22 : PySem.W.codeIn K cd22 "sets_of" = true) (k22 : PySem.W.keepIn K (.ref f22) = true)
    (a23 : PySem.W.nsIn K mainGlobals "sets_of" = some (some (.ref f23))) (l23 : K.lookup f23 = some ⟨oc23, od23, .func (PySem.W.fnOf "sets_of" "sets_of" (defArgs s_sets_of_3) (defBody s_sets_of_3) (defScope s_sets_of_3) .none kV23 dc23 pm23 an23 cd23 ct23), sl23⟩) (c23 : PySem.W.codeIn K cd23 "sets_of" = true) (k23 : PySem.W.keepIn K (.ref f23) = true)
    (a24 : PySem.W.nsIn K mainGlobals "sets_of" = some (some (.ref f24))) (l24 : K.lookup f24 = some ⟨oc24, od24, .func (PySem.W.fnOf "sets_of" "sets_of" (defArgs s_sets_of_4) (defBody s_sets_of_4) (defScope s_sets_of_4) .none kV24 dc24 pm24 an24 cd24 ct24), sl24⟩) (c24 : PySem.W.codeIn K cd24 "sets_of" = true) (k24 : PySem.W.keepIn K (.ref f24) = true)
    (a25 : PySem.W.nsIn K mainGlobals "sets_of" = some (some (.ref f25))) (l25 : K.lookup f25 = some ⟨oc25, od25, .func (PySem.W.fnOf "sets_of" "sets_of" (defArgs s_sets_of_5) (defBody s_sets_of_5) (defScope s_sets_of_5) .none kV25 dc25 pm25 an25 cd25 ct25), sl25⟩) (c25 : PySem.W.codeIn K cd25 "sets_of" = true) (k25 : PySem.W.keepIn K (.ref f25) = true)
    (a26 : PySem.W.nsIn K mainGlobals "best_of" = some (some (.ref f26))) (l26 : K.lookup f26 = some ⟨oc26, od26, .func (PySem.W.fnOf "best_of" "best_of" (defArgs s_best_of) (defBody s_best_of) (defScope s_best_of) .none kV26 dc26 pm26 an26 cd26 ct26), sl26⟩) (c26 : PySem.W.codeIn K cd26 "best_of" = true) (k26 : PySem.W.keepIn K (.ref f26) = true)
    (a27 : PySem.W.nsIn K mainGlobals "duel_chance" = some (some (.ref f27))) (l27 : K.lookup f27 = some ⟨oc27, od27, .func (PySem.W.fnOf "duel_chance" "duel_chance" (defArgs s_duel_chance) (defBody s_duel_chance) (defScope s_duel_chance) .none kV27 dc27 pm27 an27 cd27 ct27), sl27⟩) (c27 : PySem.W.codeIn K cd27 "duel_chance" = true) (k27 : PySem.W.keepIn K (.ref f27) = true)
    (a28 : PySem.W.nsIn K mainGlobals "_law_q" = some (some (.ref f28))) (l28 : K.lookup f28 = some ⟨oc28, od28, .func (PySem.W.fnOf "_law_q" "_law_q" (defArgs s_law_q) (defBody s_law_q) (defScope s_law_q) .none kV28 dc28 pm28 an28 cd28 ct28), sl28⟩) (c28 : PySem.W.codeIn K cd28 "_law_q" = true) (k28 : PySem.W.keepIn K (.ref f28) = true)
    (a29 : PySem.W.nsIn K mainGlobals "_law_choose" = some (some (.ref f29))) (l29 : K.lookup f29 = some ⟨oc29, od29, .func (PySem.W.fnOf "_law_choose" "_law_choose" (defArgs s_law_choose) (defBody s_law_choose) (defScope s_law_choose) .none kV29 dc29 pm29 an29 cd29 ct29), sl29⟩) (c29 : PySem.W.codeIn K cd29 "_law_choose" = true) (k29 : PySem.W.keepIn K (.ref f29) = true)
    (a30 : PySem.W.nsIn K mainGlobals "_law_same" = some (some (.ref f30))) (l30 : K.lookup f30 = some ⟨oc30, od30, .func (PySem.W.fnOf "_law_same" "_law_same" (defArgs s_law_same) (defBody s_law_same) (defScope s_law_same) .none kV30 dc30 pm30 an30 cd30 ct30), sl30⟩) (c30 : PySem.W.codeIn K cd30 "_law_same" = true) (k30 : PySem.W.keepIn K (.ref f30) = true)
    (a31 : PySem.W.nsIn K mainGlobals "_law_sorts" = some (some (.ref f31))) (l31 : K.lookup f31 = some ⟨oc31, od31, .func (PySem.W.fnOf "_law_sorts" "_law_sorts" (defArgs s_law_sorts) (defBody s_law_sorts) (defScope s_law_sorts) .none kV31 dc31 pm31 an31 cd31 ct31), sl31⟩) (c31 : PySem.W.codeIn K cd31 "_law_sorts" = true) (k31 : PySem.W.keepIn K (.ref f31) = true)
    (a32 : PySem.W.nsIn K mainGlobals "_law_counts" = some (some (.ref f32))) (l32 : K.lookup f32 = some ⟨oc32, od32, .func (PySem.W.fnOf "_law_counts" "_law_counts" (defArgs s_law_counts) (defBody s_law_counts) (defScope s_law_counts) .none kV32 dc32 pm32 an32 cd32 ct32), sl32⟩) (c32 : PySem.W.codeIn K cd32 "_law_counts" = true) (k32 : PySem.W.keepIn K (.ref f32) = true)
    (a33 : PySem.W.nsIn K mainGlobals "_law_value" = some (some (.ref f33))) (l33 : K.lookup f33 = some ⟨oc33, od33, .func (PySem.W.fnOf "_law_value" "_law_value" (defArgs s_law_value) (defBody s_law_value) (defScope s_law_value) .none kV33 dc33 pm33 an33 cd33 ct33), sl33⟩) (c33 : PySem.W.codeIn K cd33 "_law_value" = true) (k33 : PySem.W.keepIn K (.ref f33) = true)
    (a34 : PySem.W.nsIn K mainGlobals "_law_pack" = some (some (.ref f34))) (l34 : K.lookup f34 = some ⟨oc34, od34, .func (PySem.W.fnOf "_law_pack" "_law_pack" (defArgs s_law_pack) (defBody s_law_pack) (defScope s_law_pack) .none kV34 dc34 pm34 an34 cd34 ct34), sl34⟩) (c34 : PySem.W.codeIn K cd34 "_law_pack" = true) (k34 : PySem.W.keepIn K (.ref f34) = true)
    (a35 : PySem.W.nsIn K mainGlobals "_law_hand" = some (some (.ref f35))) (l35 : K.lookup f35 = some ⟨oc35, od35, .func (PySem.W.fnOf "_law_hand" "_law_hand" (defArgs s_law_hand) (defBody s_law_hand) (defScope s_law_hand) .none kV35 dc35 pm35 an35 cd35 ct35), sl35⟩) (c35 : PySem.W.codeIn K cd35 "_law_hand" = true) (k35 : PySem.W.keepIn K (.ref f35) = true)
    (a36 : PySem.W.nsIn K mainGlobals "_law_fives" = some (some (.ref f36))) (l36 : K.lookup f36 = some ⟨oc36, od36, .func (PySem.W.fnOf "_law_fives" "_law_fives" (defArgs s_law_fives) (defBody s_law_fives) (defScope s_law_fives) .none kV36 dc36 pm36 an36 cd36 ct36), sl36⟩) (c36 : PySem.W.codeIn K cd36 "_law_fives" = true) (k36 : PySem.W.keepIn K (.ref f36) = true)
    (a37 : PySem.W.nsIn K mainGlobals "_law_compared" = some (some (.ref f37))) (l37 : K.lookup f37 = some ⟨oc37, od37, .func (PySem.W.fnOf "_law_compared" "_law_compared" (defArgs s_law_compared) (defBody s_law_compared) (defScope s_law_compared) .none kV37 dc37 pm37 an37 cd37 ct37), sl37⟩) (c37 : PySem.W.codeIn K cd37 "_law_compared" = true) (k37 : PySem.W.keepIn K (.ref f37) = true)
    (a38 : PySem.W.nsIn K mainGlobals "_law_hands_hold" = some (some (.ref f38))) (l38 : K.lookup f38 = some ⟨oc38, od38, .func (PySem.W.fnOf "_law_hands_hold" "_law_hands_hold" (defArgs s_law_hands_hold) (defBody s_law_hands_hold) (defScope s_law_hands_hold) .none kV38 dc38 pm38 an38 cd38 ct38), sl38⟩) (c38 : PySem.W.codeIn K cd38 "_law_hands_hold" = true) (k38 : PySem.W.keepIn K (.ref f38) = true)
    (a39 : PySem.W.nsIn K mainGlobals "_law_draws_hold" = some (some (.ref f39))) (l39 : K.lookup f39 = some ⟨oc39, od39, .func (PySem.W.fnOf "_law_draws_hold" "_law_draws_hold" (defArgs s_law_draws_hold) (defBody s_law_draws_hold) (defScope s_law_draws_hold) .none kV39 dc39 pm39 an39 cd39 ct39), sl39⟩) (c39 : PySem.W.codeIn K cd39 "_law_draws_hold" = true) (k39 : PySem.W.keepIn K (.ref f39) = true)
    (a40 : PySem.W.nsIn K mainGlobals "law" = some (some (.ref f40))) (l40 : K.lookup f40 = some ⟨oc40, od40, .func (PySem.W.fnOf "law" "law" (defArgs s_law) (defBody s_law) (defScope s_law) .none kV40 dc40 pm40 an40 cd40 ct40), sl40⟩) (c40 : PySem.W.codeIn K cd40 "law" = true) (k40 : PySem.W.keepIn K (.ref f40) = true)
    (z_abs : PySem.W.nsIn K mainGlobals "abs" = some none)
    (z_all : PySem.W.nsIn K mainGlobals "all" = some none)
    (z_any : PySem.W.nsIn K mainGlobals "any" = some none)
    (z_bool : PySem.W.nsIn K mainGlobals "bool" = some none)
    (z_int : PySem.W.nsIn K mainGlobals "int" = some none)
    (z_isinstance : PySem.W.nsIn K mainGlobals "isinstance" = some none)
    (z_len : PySem.W.nsIn K mainGlobals "len" = some none)
    (z_list : PySem.W.nsIn K mainGlobals "list" = some none)
    (z_max : PySem.W.nsIn K mainGlobals "max" = some none)
    (z_min : PySem.W.nsIn K mainGlobals "min" = some none)
    (z_range : PySem.W.nsIn K mainGlobals "range" = some none)
    (z_repr : PySem.W.nsIn K mainGlobals "repr" = some none)
    (z_set : PySem.W.nsIn K mainGlobals "set" = some none)
    (z_sorted : PySem.W.nsIn K mainGlobals "sorted" = some none)
    (z_str : PySem.W.nsIn K mainGlobals "str" = some none)
    (z_sum : PySem.W.nsIn K mainGlobals "sum" = some none)
    (z_tuple : PySem.W.nsIn K mainGlobals "tuple" = some none)
    {t_MAX_RANKS : Tok} (q_MAX_RANKS : PySem.W.nsIn K mainGlobals "MAX_RANKS" = some (some (.int 13 t_MAX_RANKS)))
    {t_MAX_SUITS : Tok} (q_MAX_SUITS : PySem.W.nsIn K mainGlobals "MAX_SUITS" = some (some (.int 6 t_MAX_SUITS)))
    {w_SORTS : Addr} {n_SORTS : Nat} {sl_SORTS : Array (Option Value)} {k0_SORTS : Tok} {k1_SORTS : Tok} {k2_SORTS : Tok} {k3_SORTS : Tok} {k4_SORTS : Tok} {k5_SORTS : Tok} {k6_SORTS : Tok} {k7_SORTS : Tok} {k8_SORTS : Tok} (q_SORTS : PySem.W.nsIn K mainGlobals "SORTS" = some (some (.ref w_SORTS))) (m_SORTS : K.lookup w_SORTS = some ⟨.type "tuple", none, .seq #[.str (Str.ofString "high") k0_SORTS, .str (Str.ofString "pair") k1_SORTS, .str (Str.ofString "pairs") k2_SORTS, .str (Str.ofString "three") k3_SORTS, .str (Str.ofString "row") k4_SORTS, .str (Str.ofString "suit") k5_SORTS, .str (Str.ofString "house") k6_SORTS, .str (Str.ofString "four") k7_SORTS, .str (Str.ofString "both") k8_SORTS] n_SORTS, sl_SORTS⟩)
    : ∃ fd : FuncData, (∀ (s : Shared) (v : Value), BindsTo s fd ⟨[v], []⟩ [("script", v)]) ∧ ∀ base : Heap, K.In base → base.Ns mainGlobals mg → FnG l.prog w K mg base 9 fa fd ["script"] (SpP K R_top) := by
  have e := hfa.symm.trans (PySem.W.mg_of X G a40)
  cases e
  have B : Gb K mg := ⟨PySem.W.mg_none_of X G z_abs, PySem.W.mg_none_of X G z_all, PySem.W.mg_none_of X G z_any, PySem.W.mg_none_of X G z_bool, PySem.W.mg_none_of X G z_int, PySem.W.mg_none_of X G z_isinstance, PySem.W.mg_none_of X G z_len, PySem.W.mg_none_of X G z_list, PySem.W.mg_none_of X G z_max, PySem.W.mg_none_of X G z_min, PySem.W.mg_none_of X G z_range, PySem.W.mg_none_of X G z_repr, PySem.W.mg_none_of X G z_set, PySem.W.mg_none_of X G z_sorted, PySem.W.mg_none_of X G z_str, PySem.W.mg_none_of X G z_sum, PySem.W.mg_none_of X G z_tuple, ⟨t_MAX_RANKS, PySem.W.mg_of X G q_MAX_RANKS⟩, ⟨t_MAX_SUITS, PySem.W.mg_of X G q_MAX_SUITS⟩, ⟨w_SORTS, PySem.W.mg_of X G q_SORTS, fun H => .tup (.inr ⟨_, _, _, m_SORTS, rfl, rfl, rfl, (show 9 ≤ sizeLine by rw [sizeLine_eq]; decide), .cons (show RelV (.str (Str.ofString "high")) _ from ⟨_, rfl⟩) (.cons (show RelV (.str (Str.ofString "pair")) _ from ⟨_, rfl⟩) (.cons (show RelV (.str (Str.ofString "pairs")) _ from ⟨_, rfl⟩) (.cons (show RelV (.str (Str.ofString "three")) _ from ⟨_, rfl⟩) (.cons (show RelV (.str (Str.ofString "row")) _ from ⟨_, rfl⟩) (.cons (show RelV (.str (Str.ofString "suit")) _ from ⟨_, rfl⟩) (.cons (show RelV (.str (Str.ofString "house")) _ from ⟨_, rfl⟩) (.cons (show RelV (.str (Str.ofString "four")) _ from ⟨_, rfl⟩) (.cons (show RelV (.str (Str.ofString "both")) _ from ⟨_, rfl⟩) (.nil)))))))))⟩) (.cons (.str _) (.cons (.str _) (.cons (.str _) (.cons (.str _) (.cons (.str _) (.cons (.str _) (.cons (.str _) (.cons (.str _) (.cons (.str _) .nil)))))))))⟩⟩
  refine ⟨PySem.W.fnOf "law" "law" (defArgs s_law) (defBody s_law) (defScope s_law) .none kV40 dc40 pm40 an40 cd40 ct40, fun s v => .of_eq rfl, fun base _ _ => ?_⟩
  have D0 : Fd K mg "_law_start" s_law_start := ⟨⟨_, _, fun_mk (st := s_law_start) l0 c0 k0, PySem.W.mg_of X G a0⟩⟩
  have C0 := ok_law_start (P := l.prog) (w := w) (base := base) B D0 
  have D1 : Fd K mg "_law_draw" s_law_draw := ⟨⟨_, _, fun_mk (st := s_law_draw) l1 c1 k1, PySem.W.mg_of X G a1⟩⟩
  have C1 := ok_law_draw (P := l.prog) (w := w) (base := base) B D1 
  have D2 : Fd K mg "_law_pick" s_law_pick := ⟨⟨_, _, fun_mk (st := s_law_pick) l2 c2 k2, PySem.W.mg_of X G a2⟩⟩
  have C2 := ok_law_pick (P := l.prog) (w := w) (base := base) B D2 C1
  have D3 : Fd K mg "is_integer" s_is_integer := ⟨⟨_, _, fun_mk (st := s_is_integer) l3 c3 k3, PySem.W.mg_of X G a3⟩⟩
  have C3 := ok_is_integer (P := l.prog) (w := w) (base := base) B D3 
  have D4 : Fd K mg "greatest_divisor" s_greatest_divisor := ⟨⟨_, _, fun_mk (st := s_greatest_divisor) l4 c4 k4, PySem.W.mg_of X G a4⟩⟩
  have C4 := ok_greatest_divisor (P := l.prog) (w := w) (base := base) B D4 
  have D5 : Fd K mg "quotient" s_quotient := ⟨⟨_, _, fun_mk (st := s_quotient) l5 c5 k5, PySem.W.mg_of X G a5⟩⟩
  have C5 := ok_quotient (P := l.prog) (w := w) (base := base) B D5 C4
  have D6 : Fd K mg "choose" s_choose := ⟨⟨_, _, fun_mk (st := s_choose) l6 c6 k6, PySem.W.mg_of X G a6⟩⟩
  have C6 := ok_choose (P := l.prog) (w := w) (base := base) B D6 
  have D7 : Fd K mg "check_pack" s_check_pack := ⟨⟨_, _, fun_mk (st := s_check_pack) l7 c7 k7, PySem.W.mg_of X G a7⟩⟩
  have C7 := ok_check_pack (P := l.prog) (w := w) (base := base) B D7 C3
  have D8 : Fd K mg "is_card" s_is_card := ⟨⟨_, _, fun_mk (st := s_is_card) l8 c8 k8, PySem.W.mg_of X G a8⟩⟩
  have C8 := ok_is_card (P := l.prog) (w := w) (base := base) B D8 C3
  have D9 : Fd K mg "are_cards" s_are_cards := ⟨⟨_, _, fun_mk (st := s_are_cards) l9 c9 k9, PySem.W.mg_of X G a9⟩⟩
  have C9 := ok_are_cards (P := l.prog) (w := w) (base := base) B D9 C8
  have D10 : Fd K mg "check_hand" s_check_hand := ⟨⟨_, _, fun_mk (st := s_check_hand) l10 c10 k10, PySem.W.mg_of X G a10⟩⟩
  have C10 := ok_check_hand (P := l.prog) (w := w) (base := base) B D10 C9 C7
  have D11 : Fd K mg "count_sorts" s_count_sorts := ⟨⟨_, _, fun_mk (st := s_count_sorts) l11 c11 k11, PySem.W.mg_of X G a11⟩⟩
  have C11 := ok_count_sorts (P := l.prog) (w := w) (base := base) B D11 C7 C6
  have D12 : Fd K mg "shape_of" s_shape_of := ⟨⟨_, _, fun_mk (st := s_shape_of) l12 c12 k12, PySem.W.mg_of X G a12⟩⟩
  have C12 := ok_shape_of (P := l.prog) (w := w) (base := base) B D12 
  have D13 : Fd K mg "sort_of" s_sort_of := ⟨⟨_, _, fun_mk (st := s_sort_of) l13 c13 k13, PySem.W.mg_of X G a13⟩⟩
  have C13 := ok_sort_of (P := l.prog) (w := w) (base := base) B D13 C12
  have D14 : Fd K mg "sort_name" s_sort_name := ⟨⟨_, _, fun_mk (st := s_sort_name) l14 c14 k14, PySem.W.mg_of X G a14⟩⟩
  have C14 := ok_sort_name (P := l.prog) (w := w) (base := base) B D14 C10 C13
  have D15 : Fd K mg "worth" s_worth := ⟨⟨_, _, fun_mk (st := s_worth) l15 c15 k15, PySem.W.mg_of X G a15⟩⟩
  have C15 := ok_worth (P := l.prog) (w := w) (base := base) B D15 C12 C13
  have D16 : Fd K mg "compare_hands" s_compare_hands := ⟨⟨_, _, fun_mk (st := s_compare_hands) l16 c16 k16, PySem.W.mg_of X G a16⟩⟩
  have C16 := ok_compare_hands (P := l.prog) (w := w) (base := base) B D16 C9 C7 C15
  have D17 : Fd K mg "chance_of_sort" s_chance_of_sort := ⟨⟨_, _, fun_mk (st := s_chance_of_sort) l17 c17 k17, PySem.W.mg_of X G a17⟩⟩
  have C17 := ok_chance_of_sort (P := l.prog) (w := w) (base := base) B D17 C6 C11 C5
  have D18 : Fd K mg "all_cards" s_all_cards := ⟨⟨_, _, fun_mk (st := s_all_cards) l18 c18 k18, PySem.W.mg_of X G a18⟩⟩
  have C18 := ok_all_cards (P := l.prog) (w := w) (base := base) B D18 
  have D19 : Fd K mg "draws_to" s_draws_to := ⟨⟨_, _, fun_mk (st := s_draws_to) l19 c19 k19, PySem.W.mg_of X G a19⟩⟩
  have C19 := ok_draws_to (P := l.prog) (w := w) (base := base) B D19 C18 C9 C7 C13
  have D20 : Fd K mg "sets_of" s_sets_of_0 := ⟨⟨_, _, fun_mk (st := s_sets_of_0) l20 c20 k20, PySem.W.mg_of X G a20⟩⟩
  have C20 := ok_sets_of_0 (P := l.prog) (w := w) (base := base) B D20 
  have D21 : Fd K mg "sets_of" s_sets_of_1 := ⟨⟨_, _, fun_mk (st := s_sets_of_1) l21 c21 k21, PySem.W.mg_of X G a21⟩⟩
  have C21 := ok_sets_of_1 (P := l.prog) (w := w) (base := base) B D21 C20
  have D22 : Fd K mg "sets_of" s_sets_of_2 := ⟨⟨_, _, fun_mk (st := s_sets_of_2) l22 c22 k22, PySem.W.mg_of X G a22⟩⟩
  have C22 := ok_sets_of_2 (P := l.prog) (w := w) (base := base) B D22 C21
  have D23 : Fd K mg "sets_of" s_sets_of_3 := ⟨⟨_, _, fun_mk (st := s_sets_of_3) l23 c23 k23, PySem.W.mg_of X G a23⟩⟩
  have C23 := ok_sets_of_3 (P := l.prog) (w := w) (base := base) B D23 C22
  have D24 : Fd K mg "sets_of" s_sets_of_4 := ⟨⟨_, _, fun_mk (st := s_sets_of_4) l24 c24 k24, PySem.W.mg_of X G a24⟩⟩
  have C24 := ok_sets_of_4 (P := l.prog) (w := w) (base := base) B D24 C23
  have D25 : Fd K mg "sets_of" s_sets_of_5 := ⟨⟨_, _, fun_mk (st := s_sets_of_5) l25 c25 k25, PySem.W.mg_of X G a25⟩⟩
  have C25 := ok_sets_of_5 (P := l.prog) (w := w) (base := base) B D25 C24
  have D26 : Fd K mg "best_of" s_best_of := ⟨⟨_, _, fun_mk (st := s_best_of) l26 c26 k26, PySem.W.mg_of X G a26⟩⟩
  have C26 := ok_best_of (P := l.prog) (w := w) (base := base) B D26 C9 C7 C25 C15
  have D27 : Fd K mg "duel_chance" s_duel_chance := ⟨⟨_, _, fun_mk (st := s_duel_chance) l27 c27 k27, PySem.W.mg_of X G a27⟩⟩
  have C27 := ok_duel_chance (P := l.prog) (w := w) (base := base) B D27 C18 C9 C7 C5 C15
  have D28 : Fd K mg "_law_q" s_law_q := ⟨⟨_, _, fun_mk (st := s_law_q) l28 c28 k28, PySem.W.mg_of X G a28⟩⟩
  have C28 := ok_law_q (P := l.prog) (w := w) (base := base) B D28 
  have D29 : Fd K mg "_law_choose" s_law_choose := ⟨⟨_, _, fun_mk (st := s_law_choose) l29 c29 k29, PySem.W.mg_of X G a29⟩⟩
  have C29 := ok_law_choose (P := l.prog) (w := w) (base := base) B D29 
  have D30 : Fd K mg "_law_same" s_law_same := ⟨⟨_, _, fun_mk (st := s_law_same) l30 c30 k30, PySem.W.mg_of X G a30⟩⟩
  have C30 := ok_law_same (P := l.prog) (w := w) (base := base) B D30 
  have D31 : Fd K mg "_law_sorts" s_law_sorts := ⟨⟨_, _, fun_mk (st := s_law_sorts) l31 c31 k31, PySem.W.mg_of X G a31⟩⟩
  have C31 := ok_law_sorts (P := l.prog) (w := w) (base := base) B D31 
  have D32 : Fd K mg "_law_counts" s_law_counts := ⟨⟨_, _, fun_mk (st := s_law_counts) l32 c32 k32, PySem.W.mg_of X G a32⟩⟩
  have C32 := ok_law_counts (P := l.prog) (w := w) (base := base) B D32 C29
  have D33 : Fd K mg "_law_value" s_law_value := ⟨⟨_, _, fun_mk (st := s_law_value) l33 c33 k33, PySem.W.mg_of X G a33⟩⟩
  have C33 := ok_law_value (P := l.prog) (w := w) (base := base) B D33 
  have D34 : Fd K mg "_law_pack" s_law_pack := ⟨⟨_, _, fun_mk (st := s_law_pack) l34 c34 k34, PySem.W.mg_of X G a34⟩⟩
  have C34 := ok_law_pack (P := l.prog) (w := w) (base := base) B D34 
  have D35 : Fd K mg "_law_hand" s_law_hand := ⟨⟨_, _, fun_mk (st := s_law_hand) l35 c35 k35, PySem.W.mg_of X G a35⟩⟩
  have C35 := ok_law_hand (P := l.prog) (w := w) (base := base) B D35 C1 C2
  have D36 : Fd K mg "_law_fives" s_law_fives := ⟨⟨_, _, fun_mk (st := s_law_fives) l36 c36 k36, PySem.W.mg_of X G a36⟩⟩
  have C36 := ok_law_fives (P := l.prog) (w := w) (base := base) B D36 
  have D37 : Fd K mg "_law_compared" s_law_compared := ⟨⟨_, _, fun_mk (st := s_law_compared) l37 c37 k37, PySem.W.mg_of X G a37⟩⟩
  have C37 := ok_law_compared (P := l.prog) (w := w) (base := base) B D37 C33
  have D38 : Fd K mg "_law_hands_hold" s_law_hands_hold := ⟨⟨_, _, fun_mk (st := s_law_hands_hold) l38 c38 k38, PySem.W.mg_of X G a38⟩⟩
  have C38 := ok_law_hands_hold (P := l.prog) (w := w) (base := base) B D38 C37 C1 C36 C35 C31 C33 C26 C16 C14
  have D39 : Fd K mg "_law_draws_hold" s_law_draws_hold := ⟨⟨_, _, fun_mk (st := s_law_draws_hold) l39 c39 k39, PySem.W.mg_of X G a39⟩⟩
  have C39 := ok_law_draws_hold (P := l.prog) (w := w) (base := base) B D39 C1 C35 C28 C30 C33 C19 C27
  exact ok_law (P := l.prog) (w := w) (base := base) B (fun_mk (st := s_law) l40 c40 k40) C29 C32 C1 C39 C38 C34 C28 C30 C31 C0 C17 C11
end Nz
open PySem PySem.W PyProof.Rows
set_option maxHeartbeats 0 in
theorem PySem.Challenge.cw_nosurewin_k87_hands_counted_by_ranks_and_holds : PySem.Challenge.rw_nosurewin_k87_hands_counted_by_ranks_and.Holds := by
  w_on; o_law; k_head; (case hw => w_witness2)
  k_fill
  refine Nz.walk_ofG (l := PySem.Challenge.rw_nosurewin_k87_hands_counted_by_ranks_and) (n := 63) (k := 9) (x := "script") rfl (by decide) rfl ⟨rfl, by decide, by decide⟩ (fun w h Y => PySem.W.kIn_of Y) ?F
  case F =>
    intro w mg fa h KX G hmg
    refine' Nz.all_mk KX G hmg ?a0 ?l0 ?c0 ?k0 ?a1 ?l1 ?c1 ?k1 ?a2 ?l2 ?c2 ?k2 ?a3 ?l3 ?c3 ?k3 ?a4 ?l4 ?c4 ?k4 ?a5 ?l5 ?c5 ?k5 ?a6 ?l6 ?c6 ?k6 ?a7 ?l7 ?c7 ?k7 ?a8 ?l8 ?c8 ?k8 ?a9 ?l9 ?c9 ?k9 ?a10 ?l10 ?c10 ?k10 ?a11 ?l11 ?c11 ?k11 ?a12 ?l12 ?c12 ?k12 ?a13 ?l13 ?c13 ?k13 ?a14 ?l14 ?c14 ?k14 ?a15 ?l15 ?c15 ?k15 ?a16 ?l16 ?c16 ?k16 ?a17 ?l17 ?c17 ?k17 ?a18 ?l18 ?c18 ?k18 ?a19 ?l19 ?c19 ?k19 ?a20 ?l20 ?c20 ?k20 ?a21 ?l21 ?c21 ?k21 ?a22 ?l22 ?c22 ?k22 ?a23 ?l23 ?c23 ?k23 ?a24 ?l24 ?c24 ?k24 ?a25 ?l25 ?c25 ?k25 ?a26 ?l26 ?c26 ?k26 ?a27 ?l27 ?c27 ?k27 ?a28 ?l28 ?c28 ?k28 ?a29 ?l29 ?c29 ?k29 ?a30 ?l30 ?c30 ?k30 ?a31 ?l31 ?c31 ?k31 ?a32 ?l32 ?c32 ?k32 ?a33 ?l33 ?c33 ?k33 ?a34 ?l34 ?c34 ?k34 ?a35 ?l35 ?c35 ?k35 ?a36 ?l36 ?c36 ?k36 ?a37 ?l37 ?c37 ?k37 ?a38 ?l38 ?c38 ?k38 ?a39 ?l39 ?c39 ?k39 ?a40 ?l40 ?c40 ?k40 ?z_abs ?z_all ?z_any ?z_bool ?z_int ?z_isinstance ?z_len ?z_list ?z_max ?z_min ?z_range ?z_repr ?z_set ?z_sorted ?z_str ?z_sum ?z_tuple ?q_MAX_RANKS ?q_MAX_SUITS ?q_SORTS ?m_SORTS
    (case a0 => k_is)
    (case l0 => k_is)
    (case c0 => k_is)
    (case k0 => k_is)
    (case a1 => k_is)
    (case l1 => k_is)
    (case c1 => k_is)
    (case k1 => k_is)
    (case a2 => k_is)
    (case l2 => k_is)
    (case c2 => k_is)
    (case k2 => k_is)
    (case a3 => k_is)
    (case l3 => k_is)
    (case c3 => k_is)
    (case k3 => k_is)
    (case a4 => k_is)
    (case l4 => k_is)
    (case c4 => k_is)
    (case k4 => k_is)
    (case a5 => k_is)
    (case l5 => k_is)
    (case c5 => k_is)
    (case k5 => k_is)
    (case a6 => k_is)
    (case l6 => k_is)
    (case c6 => k_is)
    (case k6 => k_is)
    (case a7 => k_is)
    (case l7 => k_is)
    (case c7 => k_is)
    (case k7 => k_is)
    (case a8 => k_is)
    (case l8 => k_is)
    (case c8 => k_is)
    (case k8 => k_is)
    (case a9 => k_is)
    (case l9 => k_is)
    (case c9 => k_is)
    (case k9 => k_is)
    (case a10 => k_is)
    (case l10 => k_is)
    (case c10 => k_is)
    (case k10 => k_is)
    (case a11 => k_is)
    (case l11 => k_is)
    (case c11 => k_is)
    (case k11 => k_is)
    (case a12 => k_is)
    (case l12 => k_is)
    (case c12 => k_is)
    (case k12 => k_is)
    (case a13 => k_is)
    (case l13 => k_is)
    (case c13 => k_is)
    (case k13 => k_is)
    (case a14 => k_is)
    (case l14 => k_is)
    (case c14 => k_is)
    (case k14 => k_is)
    (case a15 => k_is)
    (case l15 => k_is)
    (case c15 => k_is)
    (case k15 => k_is)
    (case a16 => k_is)
    (case l16 => k_is)
    (case c16 => k_is)
    (case k16 => k_is)
    (case a17 => k_is)
    (case l17 => k_is)
    (case c17 => k_is)
    (case k17 => k_is)
    (case a18 => k_is)
    (case l18 => k_is)
    (case c18 => k_is)
    (case k18 => k_is)
    (case a19 => k_is)
    (case l19 => k_is)
    (case c19 => k_is)
    (case k19 => k_is)
    (case a20 => k_is)
    (case l20 => k_is)
    (case c20 => k_is)
    (case k20 => k_is)
    (case a21 => k_is)
    (case l21 => k_is)
    (case c21 => k_is)
    (case k21 => k_is)
    (case a22 => k_is)
    (case l22 => k_is)
    (case c22 => k_is)
    (case k22 => k_is)
    (case a23 => k_is)
    (case l23 => k_is)
    (case c23 => k_is)
    (case k23 => k_is)
    (case a24 => k_is)
    (case l24 => k_is)
    (case c24 => k_is)
    (case k24 => k_is)
    (case a25 => k_is)
    (case l25 => k_is)
    (case c25 => k_is)
    (case k25 => k_is)
    (case a26 => k_is)
    (case l26 => k_is)
    (case c26 => k_is)
    (case k26 => k_is)
    (case a27 => k_is)
    (case l27 => k_is)
    (case c27 => k_is)
    (case k27 => k_is)
    (case a28 => k_is)
    (case l28 => k_is)
    (case c28 => k_is)
    (case k28 => k_is)
    (case a29 => k_is)
    (case l29 => k_is)
    (case c29 => k_is)
    (case k29 => k_is)
    (case a30 => k_is)
    (case l30 => k_is)
    (case c30 => k_is)
    (case k30 => k_is)
    (case a31 => k_is)
    (case l31 => k_is)
    (case c31 => k_is)
    (case k31 => k_is)
    (case a32 => k_is)
    (case l32 => k_is)
    (case c32 => k_is)
    (case k32 => k_is)
    (case a33 => k_is)
    (case l33 => k_is)
    (case c33 => k_is)
    (case k33 => k_is)
    (case a34 => k_is)
    (case l34 => k_is)
    (case c34 => k_is)
    (case k34 => k_is)
    (case a35 => k_is)
    (case l35 => k_is)
    (case c35 => k_is)
    (case k35 => k_is)
    (case a36 => k_is)
    (case l36 => k_is)
    (case c36 => k_is)
    (case k36 => k_is)
    (case a37 => k_is)
    (case l37 => k_is)
    (case c37 => k_is)
    (case k37 => k_is)
    (case a38 => k_is)
    (case l38 => k_is)
    (case c38 => k_is)
    (case k38 => k_is)
    (case a39 => k_is)
    (case l39 => k_is)
    (case c39 => k_is)
    (case k39 => k_is)
    (case a40 => k_is)
    (case l40 => k_is)
    (case c40 => k_is)
    (case k40 => k_is)
    (case z_abs => k_is)
    (case z_all => k_is)
    (case z_any => k_is)
    (case z_bool => k_is)
    (case z_int => k_is)
    (case z_isinstance => k_is)
    (case z_len => k_is)
    (case z_list => k_is)
    (case z_max => k_is)
    (case z_min => k_is)
    (case z_range => k_is)
    (case z_repr => k_is)
    (case z_set => k_is)
    (case z_sorted => k_is)
    (case z_str => k_is)
    (case z_sum => k_is)
    (case z_tuple => k_is)
    (case q_MAX_RANKS => k_is)
    (case q_MAX_SUITS => k_is)
    (case q_SORTS => k_is)
    (case m_SORTS => k_is)

