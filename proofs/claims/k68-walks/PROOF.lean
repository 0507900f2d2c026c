import PyProof.Rows.All
import HandS.ForMost
import HandS.Wide
import HandS.Zip
import HandS.Style
import HandS.IsInst
import HandS.TupAny
import HandS.RaiseMore
import KE.KRevSl
import PyProof.ReprRoads
import PyProof.WalksMore
import PyProof.SumWalkG
import HandS.SetFor
import PyProof.ReprLen
import PyProof.ReprText
import PyProof.P3Eq
import PyProof.Draws
import PyProof.EnumMake
import HandS.Strs
import HandS.SortInts
import HandS.TupMul
import HandS.Flow
import KE.SortData
import KE.DataCmp
import HandS.Deep
import HandS.NoneIn
import HandS.DictComp
import HandS.WordsDict
import KE.DataEq
import HandS.ExcInit
import HandS.FStr
import KE.KExcSuper
import HandS.Exc
import HandS.ExcField
import HandS.ExcIs
import HandS.Ends
import PySem.Challenge.RW_nosurewin_k68_walks_cut_and_put_together
set_option Elab.async false
set_option linter.all false
set_option maxRecDepth 100000
set_option maxHeartbeats 4000000
namespace Nz
open PySem PySem.Spec PyProof.Rows L2

/-! ### heaps: growth, hiding -/
def Ex (H H' : Hp) : Prop := ∀ a o, H a = some o → H' a = some o
theorem Ex.refl (H : Hp) : Ex H H := fun _ _ h => h
theorem Ex.trans {H H1 H2 : Hp} (a : Ex H H1) (b : Ex H1 H2) : Ex H H2 := fun x o h => b x o (a x o h)
theorem Ex.new {H : Hp} {p : Addr} {o : HO} (h : H p = none) : Ex H (upd H p o) := fun a u e => by
  rw [upd_ne (ne_of_none e h)]; exact e
def hide (S : List Addr) (H : Hp) : Hp := fun a => if a ∈ S then none else H a
theorem hide_some {S : List Addr} {H : Hp} {a : Addr} {o : HO} (h : hide S H a = some o) : a ∉ S ∧ H a = some o := by
  unfold hide at h
  by_cases e : a ∈ S
  · rw [if_pos e] at h; cases h
  · rw [if_neg e] at h; exact ⟨e, h⟩
theorem hide_of {S : List Addr} {H : Hp} {a : Addr} {o : HO} (n : a ∉ S) (h : H a = some o) : hide S H a = some o := by
  unfold hide; rw [if_neg n]; exact h
theorem hide_ex (S : List Addr) (H : Hp) : Ex (hide S H) H := fun _ _ h => (hide_some h).2
/-- less hidden, more there -/
theorem hide_mono {S S' : List Addr} {H H' : Hp} (h : ∀ a o, a ∉ S → H a = some o → a ∉ S' ∧ H' a = some o) : Ex (hide S H) (hide S' H') := fun a o e =>
  have ⟨n, e⟩ := hide_some e
  have ⟨n', e'⟩ := h a o n e
  hide_of n' e'

/-- a tuple with no dict of its own -/
def Pt (K : PySem.W.Frag) (H : Hp) (a : Addr) (xs : List V) : Prop :=
  (∃ o, H a = some (.frz o (.tup xs)) ∧ o.dict = none) ∨
    ∃ (o : Obj) (its : Array Value) (n : Nat), K.lookup a = some o ∧ o.cls = .type "tuple" ∧ o.dict = none ∧ o.data = .seq its n ∧ its.size ≤ sizeLine ∧ Vals xs its.toList
theorem Pt.sq {K : PySem.W.Frag} {H : Hp} {a : Addr} {xs : List V} (h : Pt K H a xs) : SqT K H a xs := by
  rcases h with ⟨o, h, _⟩ | ⟨o, its, n, h1, h2, _, h4, h5, h6⟩
  · exact .inl (.inr ⟨o, h⟩)
  · exact .inr ⟨o, its, n, h1, h2, h4, h5, h6⟩
/-! data at any depth; tuples have no dict of their own -/
mutual
inductive Dz (K : PySem.W.Frag) (H : Hp) : V → PyData → Prop
  | non : Dz K H .non .none
  | bl (b : Bool) : Dz K H (.bl b) (.bool b)
  | int (i : Int) : Dz K H (.int i) (.int i)
  | str (x : Str) : Dz K H (.str x) (.str x)
  | lst {a : Addr} {xs : List V} {ds : List PyData} : SqL K H a xs → DzAll K H xs ds → Dz K H (.ref a) (.list ds)
  | tup {a : Addr} {xs : List V} {ds : List PyData} : Pt K H a xs → DzAll K H xs ds → Dz K H (.ref a) (.tuple ds)
inductive DzAll (K : PySem.W.Frag) (H : Hp) : List V → List PyData → Prop
  | nil : DzAll K H [] []
  | cons {v : V} {vs : List V} {d : PyData} {ds : List PyData} : Dz K H v d → DzAll K H vs ds → DzAll K H (v :: vs) (d :: ds)
end
section
variable {K : PySem.W.Frag} {H H' : Hp}
mutual
theorem dz_dp : ∀ (d : PyData) (v : V), Dz K H v d → Dp K H v d
  | .none, _, h => by cases h; exact .non
  | .bool b, _, h => by cases h; exact .bl b
  | .int i, _, h => by cases h; exact .int i
  | .str x, _, h => by cases h; exact .str x
  | .list ds, _, h => by
    cases h with
    | lst hs ha => exact .lst hs (dza_dpa ds _ ha)
  | .tuple ds, _, h => by
    cases h with
    | tup hs ha => exact .tup hs.sq (dza_dpa ds _ ha)
  | .dict _, _, h => by cases h
theorem dza_dpa : ∀ (ds : List PyData) (vs : List V), DzAll K H vs ds → DpAll K H vs ds
  | [], _, h => by cases h; exact .nil
  | d :: ds, _, h => by
    cases h with
    | cons h1 h2 => exact .cons (dz_dp d _ h1) (dza_dpa ds _ h2)
end
end

section
variable {K : PySem.W.Frag} {H H' : Hp}
theorem ex_rd {a : Addr} {u : HO} (e : Ex H H') (h : Rd H a u) : Rd H' a u := by
  rcases h with h | ⟨o, h⟩
  · exact Or.inl (e a _ h)
  · exact Or.inr ⟨o, e a _ h⟩
theorem ex_l {a : Addr} {xs : List V} (e : Ex H H') (h : SqL K H a xs) : SqL K H' a xs := by
  rcases h with h | h
  · exact Or.inl (ex_rd e h)
  · exact Or.inr h
theorem ex_t {a : Addr} {xs : List V} (e : Ex H H') (h : SqT K H a xs) : SqT K H' a xs := by
  rcases h with h | h
  · exact Or.inl (ex_rd e h)
  · exact Or.inr h
theorem ex_p {a : Addr} {xs : List V} (e : Ex H H') (h : Pt K H a xs) : Pt K H' a xs := by
  rcases h with ⟨o, h, z⟩ | h
  · exact .inl ⟨o, e a _ h, z⟩
  · exact .inr h
theorem sq_of {a : Addr} {xs : List V} (h : H a = some (.lst xs)) : SqL K H a xs := Or.inl (Or.inl h)
theorem pt_of {a : Addr} {o : Obj} {xs : List V} (h : H a = some (.frz o (.tup xs))) (z : o.dict = none) : Pt K H a xs := .inl ⟨o, h, z⟩
mutual
theorem dp_mono (e : Ex H H') : ∀ (d : PyData) (v : V), Dz K H v d → Dz K H' v d
  | .none, _, h => by cases h; exact .non
  | .bool b, _, h => by cases h; exact .bl b
  | .int i, _, h => by cases h; exact .int i
  | .str x, _, h => by cases h; exact .str x
  | .list ds, _, h => by
    cases h with
    | lst hs ha => exact .lst (ex_l e hs) (dpa_mono e ds _ ha)
  | .tuple ds, _, h => by
    cases h with
    | tup hs ha => exact .tup (ex_p e hs) (dpa_mono e ds _ ha)
  | .dict _, _, h => by cases h
theorem dpa_mono (e : Ex H H') : ∀ (ds : List PyData) (vs : List V), DzAll K H vs ds → DzAll K H' vs ds
  | [], _, h => by cases h; exact .nil
  | d :: ds, _, h => by
    cases h with
    | cons h1 h2 => exact .cons (dp_mono e d _ h1) (dpa_mono e ds _ h2)
end
theorem dpm (e : Ex H H') {d : PyData} {v : V} (h : Dz K H v d) : Dz K H' v d := dp_mono e d v h
theorem dpam (e : Ex H H') {ds : List PyData} {vs : List V} (h : DzAll K H vs ds) : DzAll K H' vs ds := dpa_mono e ds vs h
theorem dp_int {v : V} {i : Int} (h : Dz K H v (.int i)) : v = .int i := by cases h; rfl
theorem dp_bl {v : V} {b : Bool} (h : Dz K H v (.bool b)) : v = .bl b := by cases h; rfl
theorem dp_str {v : V} {x : Str} (h : Dz K H v (.str x)) : v = .str x := by cases h; rfl
theorem dp_non {v : V} (h : Dz K H v .none) : v = .non := by cases h; rfl
theorem dp_tup {v : V} {ds : List PyData} (h : Dz K H v (.tuple ds)) : ∃ a xs, v = .ref a ∧ Pt K H a xs ∧ DzAll K H xs ds := by
  cases h with
  | tup hs ha => exact ⟨_, _, rfl, hs, ha⟩
theorem dp_lst {v : V} {ds : List PyData} (h : Dz K H v (.list ds)) : ∃ a xs, v = .ref a ∧ SqL K H a xs ∧ DzAll K H xs ds := by
  cases h with
  | lst hs ha => exact ⟨_, _, rfl, hs, ha⟩
theorem dpa_length : ∀ {ds : List PyData} {xs : List V}, DzAll K H xs ds → xs.length = ds.length
  | [], _, h => by cases h; rfl
  | _ :: _, _, h => by
    cases h with
    | cons _ h2 => rw [List.length_cons, List.length_cons, dpa_length h2]
theorem dpa_get : ∀ {ds : List PyData} {xs : List V} {i : Nat} {d : PyData}, DzAll K H xs ds → ds[i]? = some d → ∃ v, xs[i]? = some v ∧ Dz K H v d
  | [], _, _, _, h, e => by simp at e
  | d :: ds, _, 0, _, h, e => by
    cases h with
    | cons h1 h2 =>
      have e' := Option.some.inj e
      subst e'
      exact ⟨_, rfl, h1⟩
  | d :: ds, _, i + 1, d', h, e => by
    cases h with
    | cons h1 h2 =>
      obtain ⟨v, a, b⟩ := dpa_get (i := i) (d := d') h2 (by simpa using e)
      exact ⟨v, by simpa using a, b⟩
theorem dpa_getV : ∀ {ds : List PyData} {xs : List V} {i : Nat} {v : V}, DzAll K H xs ds → xs[i]? = some v → ∃ d, ds[i]? = some d ∧ Dz K H v d := fun {ds xs i v} h e => by
  have hl := dpa_length h
  have hi : i < xs.length := (List.getElem?_eq_some_iff.mp e).1
  have hi' : i < ds.length := by omega
  have ⟨w, a, b⟩ := dpa_get h (List.getElem?_eq_getElem hi')
  rw [a] at e; cases e
  exact ⟨_, List.getElem?_eq_getElem hi', b⟩
theorem dpa_append : ∀ {ds es : List PyData} {xs ys : List V}, DzAll K H xs ds → DzAll K H ys es → DzAll K H (xs ++ ys) (ds ++ es)
  | [], _, _, _, h, h2 => by cases h; exact h2
  | _ :: _, _, _, _, h, h2 => by
    cases h with
    | cons a b => exact .cons a (dpa_append b h2)
theorem dpa_set : ∀ {ds : List PyData} {xs : List V} {v : V} {d : PyData} (i : Nat), DzAll K H xs ds → Dz K H v d → DzAll K H (xs.set i v) (ds.set i d)
  | [], _, _, _, _, h, _ => by cases h; exact .nil
  | _ :: _, _, _, _, 0, h, h2 => by
    cases h with
    | cons a b => exact .cons h2 b
  | _ :: _, _, _, _, i + 1, h, h2 => by
    cases h with
    | cons a b => exact .cons a (dpa_set i b h2)
theorem dpa_take : ∀ {ds : List PyData} {xs : List V} (n : Nat), DzAll K H xs ds → DzAll K H (xs.take n) (ds.take n)
  | _, _, 0, _ => by simp; exact .nil
  | [], _, _ + 1, h => by cases h; exact .nil
  | _ :: _, _, n + 1, h => by
    cases h with
    | cons a b => exact .cons a (dpa_take n b)
theorem dpa_drop : ∀ {ds : List PyData} {xs : List V} (n : Nat), DzAll K H xs ds → DzAll K H (xs.drop n) (ds.drop n)
  | _, _, 0, h => h
  | [], _, _ + 1, h => by cases h; exact .nil
  | _ :: _, _, n + 1, h => by
    cases h with
    | cons a b => exact dpa_drop n b
theorem dpa_rev {ds : List PyData} {xs : List V} (h : DzAll K H xs ds) : DzAll K H xs.reverse ds.reverse := by
  induction ds generalizing xs with
  | nil => cases h; exact .nil
  | cons d ds ih =>
    cases h with
    | cons a b =>
      rw [List.reverse_cons, List.reverse_cons]
      exact dpa_append (ih b) (.cons a .nil)
theorem dpa_rep {ds : List PyData} {xs : List V} (h : DzAll K H xs ds) : ∀ k : Nat, DzAll K H (List.replicate k xs).flatten (List.replicate k ds).flatten
  | 0 => by simp; exact .nil
  | k + 1 => by
    rw [List.replicate_succ, List.replicate_succ, List.flatten_cons, List.flatten_cons]
    exact dpa_append h (dpa_rep h k)
theorem dpaInts : ∀ {ns : List Int} {xs : List V}, DzAll K H xs (ns.map .int) → xs = ns.map V.int
  | [], _, h => by cases h; rfl
  | n :: ns, _, h => by
    cases h with
    | cons a b => rw [dp_int a, dpaInts b]; rfl
theorem dpa_ints : ∀ (ns : List Int), DzAll K H (ns.map V.int) (ns.map .int)
  | [] => .nil
  | n :: ns => .cons (.int n) (dpa_ints ns)
theorem dpaBools : ∀ {ns : List Bool} {xs : List V}, DzAll K H xs (ns.map .bool) → xs = ns.map V.bl
  | [], _, h => by cases h; rfl
  | n :: ns, _, h => by
    cases h with
    | cons a b => rw [dp_bl a, dpaBools b]; rfl
end

/-! ### what a frame holds -/
inductive MO where
  | lst (ds : List PyData)
  | dK (kvs : List (Key × PyData))
  | dT (kvs : List (List Key × PyData))
  /-- a list, of which P is known -/
  | any (P : List PyData → Prop)
inductive Sl where
  /-- nothing is known -/
  | no
  /-- data, never changed -/
  | da (d : PyData)
  /-- a thing that may change: of the frame's own (l), or borrowed -/
  | mu (l : Bool) (a : Addr) (o : MO)
  /-- just this value -/
  | vl (v : V)
structure Cz where
  K : PySem.W.Frag
  /-- the heap at the entry -/
  B : Hp
  /-- what is borrowed and may be changed -/
  M : List Addr
  /-- what the caller hides -/
  S0 : List Addr
def mutA : Sl → Option Addr
  | .mu _ a _ => some a
  | _ => none
def muts (ρ : List Sl) : List Addr := ρ.filterMap mutA
abbrev hid (c : Cz) (ρ : List Sl) : List Addr := c.S0 ++ muts ρ
theorem mem_muts {ρ : List Sl} {a : Addr} : a ∈ muts ρ ↔ ∃ (i : Nat) (l : Bool) (o : MO), ρ[i]? = some (Sl.mu l a o) := by
  unfold muts
  rw [List.mem_filterMap]
  constructor
  · rintro ⟨s, hs, e⟩
    obtain ⟨i, hi⟩ := List.mem_iff_getElem?.mp hs
    cases s <;> simp [mutA] at e
    subst e
    exact ⟨i, _, _, hi⟩
  · rintro ⟨i, l, o, h⟩
    exact ⟨_, List.mem_of_getElem? h, rfl⟩
def KVd {κ : Type} (K : PySem.W.Frag) (H : Hp) : List (κ × V) → List (κ × PyData) → Prop := Paired fun p q => p.1 = q.1 ∧ Dz K H p.2 q.2
def MoOk (K : PySem.W.Frag) (S : List Addr) (H : Hp) (a : Addr) : MO → Prop
  | .lst ds => ∃ xs, H a = some (.lst xs) ∧ DzAll K (hide S H) xs ds
  | .dK kvs => ∃ xs, H a = some (.dK xs) ∧ KVd K (hide S H) xs kvs
  | .dT kvs => ∃ xs, H a = some (.dT xs) ∧ KVd K (hide S H) xs kvs
  | .any P => ∃ xs, H a = some (.lst xs) ∧ ∃ ds, P ds ∧ DzAll K (hide S H) xs ds
def SlOk (c : Cz) (S : List Addr) (H : Hp) (x : Option (Option V)) : Sl → Prop
  | .no => True
  | .da d => ∃ v, x = some (some v) ∧ Dz c.K (hide S H) v d
  | .mu l a o => x = some (some (.ref a)) ∧ (if l = true then c.B a = none else a ∈ c.M) ∧ MoOk c.K S H a o
  | .vl v => x = some (some v)
theorem MoOk.there {K : PySem.W.Frag} {S : List Addr} {H : Hp} {a : Addr} {o : MO} (h : MoOk K S H a o) : ∃ u, H a = some u := by
  cases o <;> exact ⟨_, h.choose_spec.1⟩
theorem KVd.mono {κ : Type} {K : PySem.W.Frag} {H H' : Hp} {xs : List (κ × V)} {kvs : List (κ × PyData)} (e : Ex H H') (h : KVd K H xs kvs) : KVd K H' xs kvs :=
  Paired.mapP h fun _ _ z => ⟨z.1, dpm e z.2⟩
theorem MoOk.mono {K : PySem.W.Frag} {S S' : List Addr} {H H' : Hp} {a : Addr} {o : MO} (e : Ex (hide S H) (hide S' H')) (he : H' a = H a) (h : MoOk K S H a o) : MoOk K S' H' a o := by
  cases o with
  | lst ds => obtain ⟨xs, h1, h2⟩ := h; exact ⟨xs, he.trans h1, dpam e h2⟩
  | dK ds => obtain ⟨xs, h1, h2⟩ := h; exact ⟨xs, he.trans h1, h2.mono e⟩
  | dT ds => obtain ⟨xs, h1, h2⟩ := h; exact ⟨xs, he.trans h1, h2.mono e⟩
  | any P => obtain ⟨xs, h1, ds, h3, h2⟩ := h; exact ⟨xs, he.trans h1, ds, h3, dpam e h2⟩

abbrev Tm := List (V × PyData)
structure Wd (c : Cz) (T : Tm) (H : Hp) (σ : L2.St) (ρ : List Sl) : Prop where
  len : σ.length = ρ.length
  keep : ∀ a o, a ∉ c.M → c.B a = some o → H a = some o
  sub : ∀ a ∈ c.M, a ∈ c.S0
  dom : ∀ a ∈ c.S0, ∃ o, H a = some o
  tmp : ∀ p ∈ T, Dz c.K (hide (hid c ρ) H) p.1 p.2
  inj : ∀ (i j : Nat) (l m : Bool) (a : Addr) (o u : MO), ρ[i]? = some (Sl.mu l a o) → ρ[j]? = some (Sl.mu m a u) → i = j
  ap : ∀ (i : Nat) (a : Addr) (o : MO), ρ[i]? = some (Sl.mu true a o) → a ∉ c.S0
  ok : ∀ (i : Nat) (s : Sl), ρ[i]? = some s → SlOk c (hid c ρ) H σ[i]? s

section
variable {c : Cz} {T : Tm} {H H' : Hp} {σ σ' : L2.St} {ρ ρ' : List Sl}
theorem Wd.there (W : Wd c T H σ ρ) {a : Addr} (h : a ∈ hid c ρ) : ∃ o, H a = some o := by
  rcases List.mem_append.mp h with h | h
  · exact W.dom a h
  · obtain ⟨i, l, o, e⟩ := mem_muts.mp h
    exact (W.ok i _ e).2.2.there
theorem Wd.fresh (W : Wd c T H σ ρ) {p : Addr} (h : H p = none) : p ∉ hid c ρ := fun m => by
  obtain ⟨o, e⟩ := W.there m
  rw [h] at e; cases e
theorem Wd.freshB (W : Wd c T H σ ρ) {p : Addr} (h : H p = none) : c.B p = none := by
  cases e : c.B p with
  | none => rfl
  | some o =>
    have n : p ∉ c.M := fun m => W.fresh h (List.mem_append_left _ (W.sub p m))
    have := W.keep p o n e
    rw [h] at this; cases this
/-- the heap has grown -/
theorem Wd.grow (W : Wd c T H σ ρ) (e : Ex H H') : Wd c T H' σ ρ := by
  have e2 : Ex (hide (hid c ρ) H) (hide (hid c ρ) H') := hide_mono fun a o n h => ⟨n, e a o h⟩
  refine ⟨W.len, fun a o n h => e _ _ (W.keep a o n h), W.sub, fun a h => ?_, fun p hp => dpm e2 (W.tmp p hp), W.inj, W.ap, fun i s h => ?_⟩
  · obtain ⟨o, h1⟩ := W.dom a h
    exact ⟨o, e _ _ h1⟩
  · have h1 := W.ok i s h
    cases s with
    | no => exact h1
    | da d => obtain ⟨v, a, b⟩ := h1; exact ⟨v, a, dpm e2 b⟩
    | mu l a o =>
      obtain ⟨x, y, z⟩ := h1
      obtain ⟨u, hu⟩ := z.there
      exact ⟨x, y, z.mono e2 (by rw [hu, e _ _ hu])⟩
    | vl v => exact h1
theorem Wd.push (W : Wd c T H σ ρ) {v : V} {d : PyData} (h : Dz c.K (hide (hid c ρ) H) v d) : Wd c ((v, d) :: T) H σ ρ :=
  ⟨W.len, W.keep, W.sub, W.dom, fun p hp => by
    rcases List.mem_cons.mp hp with e | e
    · subst e; exact h
    · exact W.tmp p e, W.inj, W.ap, W.ok⟩
theorem Wd.tmps {T' : Tm} (W : Wd c T H σ ρ) (h : ∀ p ∈ T', p ∈ T) : Wd c T' H σ ρ := ⟨W.len, W.keep, W.sub, W.dom, fun p hp => W.tmp p (h p hp), W.inj, W.ap, W.ok⟩
theorem Wd.pop {p : V × PyData} (W : Wd c (p :: T) H σ ρ) : Wd c T H σ ρ := W.tmps fun _ h => List.mem_cons_of_mem _ h
theorem Wd.top {v : V} {d : PyData} (W : Wd c ((v, d) :: T) H σ ρ) : Dz c.K H v d := dpm (hide_ex _ _) (W.tmp (v, d) (List.mem_cons_self ..))
theorem Wd.at {v : V} {d : PyData} (W : Wd c T H σ ρ) (h : (v, d) ∈ T) : Dz c.K H v d := dpm (hide_ex _ _) (W.tmp _ h)
theorem slOk_mono {S S' : List Addr} {x : Option (Option V)} {s : Sl} (e : Ex (hide S H) (hide S' H')) (he : ∀ a, mutA s = some a → H' a = H a) (h : SlOk c S H x s) : SlOk c S' H' x s := by
  cases s with
  | no => exact h
  | da d => obtain ⟨v, a, b⟩ := h; exact ⟨v, a, dpm e b⟩
  | mu l a o => obtain ⟨x, y, z⟩ := h; exact ⟨x, y, z.mono e (he a rfl)⟩
  | vl v => exact h
theorem get_set {α : Type} {l : List α} {i j : Nat} {x y : α} (h : (l.set i x)[j]? = some y) : (i = j ∧ i < l.length ∧ y = x) ∨ (i ≠ j ∧ l[j]? = some y) := by
  by_cases q : i = j
  · subst q
    have hi := (List.getElem?_eq_some_iff.mp h).1
    rw [List.length_set] at hi
    rw [List.getElem?_set_self hi] at h
    cases h
    exact .inl ⟨rfl, hi, rfl⟩
  · rw [List.getElem?_set_ne q] at h
    exact .inr ⟨q, h⟩
/-- a slot is stored, nothing that may change -/
theorem Wd.setN (W : Wd c T H σ ρ) (i : Nat) (x : Option V) (s : Sl) (hs : mutA s = none) (h : SlOk c (hid c ρ) H (some x) s) : Wd c T H (σ.set i x) (ρ.set i s) := by
  have r : ∀ {j : Nat} {l : Bool} {a : Addr} {o : MO}, (ρ.set i s)[j]? = some (.mu l a o) → i ≠ j ∧ ρ[j]? = some (.mu l a o) := fun {j l a o} h => by
    rcases get_set h with ⟨_, _, e⟩ | e
    · rw [← e] at hs; cases hs
    · exact e
  have sub : ∀ a, a ∈ hid c (ρ.set i s) → a ∈ hid c ρ := fun a m => by
    rcases List.mem_append.mp m with m | m
    · exact List.mem_append_left _ m
    · obtain ⟨j, l, o, e⟩ := mem_muts.mp m
      exact List.mem_append_right _ (mem_muts.mpr ⟨j, l, o, (r e).2⟩)
  have e2 : Ex (hide (hid c ρ) H) (hide (hid c (ρ.set i s)) H) := hide_mono fun a o n h => ⟨fun m => n (sub a m), h⟩
  refine ⟨by rw [List.length_set, List.length_set]; exact W.len, W.keep, W.sub, W.dom, fun p hp => dpm e2 (W.tmp p hp), fun j k l m a o u h1 h2 => W.inj j k l m a o u (r h1).2 (r h2).2, fun j a o h1 => W.ap j a o (r h1).2, fun j z hz => ?_⟩
  rcases get_set hz with ⟨q, hi, e⟩ | ⟨q, e⟩
  · subst q; subst e
    rw [List.getElem?_set_self (by rw [W.len]; exact hi)]
    exact slOk_mono e2 (fun _ _ => rfl) h
  · rw [List.getElem?_set_ne q]
    exact slOk_mono e2 (fun _ _ => rfl) (W.ok j z e)
theorem Wd.setD {v : V} {d : PyData} (W : Wd c T H σ ρ) (i : Nat) (h : Dz c.K (hide (hid c ρ) H) v d) : Wd c T H (σ.set i (some v)) (ρ.set i (.da d)) :=
  W.setN i (some v) (.da d) rfl ⟨v, rfl, h⟩
/-- what stands at p is hidden too -/
abbrev Cz.hidden (c : Cz) (p : Addr) : Cz := { c with S0 := p :: c.S0 }
theorem Wd.unhide {p : Addr} (W : Wd (c.hidden p) T H σ ρ) (hs : ∀ a ∈ c.M, a ∈ c.S0) : Wd c T H σ ρ := by
  have e2 : Ex (hide (hid (c.hidden p) ρ) H) (hide (hid c ρ) H) := hide_mono fun a o n h => ⟨fun m => n (List.mem_cons_of_mem _ m), h⟩
  exact ⟨W.len, W.keep, hs, fun a h => W.dom a (List.mem_cons_of_mem _ h), fun q hq => dpm e2 (W.tmp q hq), W.inj, fun i a o h m => W.ap i a o h (List.mem_cons_of_mem _ m), fun i s h => by
    have := slOk_mono (H' := H) e2 (fun _ _ => rfl) (W.ok i s h)
    cases s <;> exact this⟩
/-- a fresh thing is hidden -/
theorem Wd.hideNew {p : Addr} {o : HO} (W : Wd c T H σ ρ) (h : H p = none) : Wd (c.hidden p) T (upd H p o) σ ρ := by
  have W2 := W.grow (Ex.new (o := o) h)
  have n := W.fresh h
  have e2 : Ex (hide (hid c ρ) H) (hide (hid (c.hidden p) ρ) (upd H p o)) := hide_mono fun a u m e => ⟨fun q => by
    rcases List.mem_cons.mp q with q | q
    · rw [q, h] at e; cases e
    · exact m q, Ex.new h a u e⟩
  refine ⟨W.len, W2.keep, fun a m => List.mem_cons_of_mem _ (W.sub a m), fun a m => ?_, fun q hq => dpm e2 (W.tmp q hq), W.inj, fun i a u e m => ?_, fun i s m => ?_⟩
  · rcases List.mem_cons.mp m with m | m
    · rw [m]; exact ⟨o, upd_same⟩
    · exact W2.dom a m
  · rcases List.mem_cons.mp m with m | m
    · obtain ⟨z, hz⟩ := (W.ok i _ e).2.2.there
      rw [m, h] at hz; cases hz
    · exact W.ap i a u e m
  · have := slOk_mono (c := c) (H' := upd H p o) e2 (fun a e => by
      cases s with
      | mu l b o' =>
        cases e
        obtain ⟨u, hu⟩ := (W.ok i _ m).2.2.there
        exact upd_ne (ne_of_none hu h)
      | _ => cases e) (W.ok i s m)
    cases s <;> exact this
theorem Wd.notin {p : Addr} (W : Wd (c.hidden p) T H σ ρ) (h0 : p ∉ c.S0) (hs : ∀ a ∈ c.M, a ∈ c.S0) : p ∉ hid c ρ := fun m => by
  rcases List.mem_append.mp m with m | m
  · exact h0 m
  · obtain ⟨i, l, o, e⟩ := mem_muts.mp m
    cases l with
    | true => exact W.ap i p o e (List.mem_cons_self ..)
    | false =>
      have := (W.ok i _ e).2.1
      rw [if_neg (by decide)] at this
      exact h0 (hs p this)
/-- a slot takes a thing that may change -/
theorem Wd.setM {p : Addr} {l : Bool} {o : MO} (W : Wd (c.hidden p) T H σ ρ) (hs : ∀ a ∈ c.M, a ∈ c.S0) (i : Nat) (hB : if l = true then c.B p = none else p ∈ c.M) (hn : p ∉ hid c ρ) (h : MoOk c.K (p :: hid c ρ) H p o) :
    Wd c T H (σ.set i (some (.ref p))) (ρ.set i (.mu l p o)) := by
  have nm : ∀ (j : Nat) (m : Bool) (u : MO), ρ[j]? ≠ some (.mu m p u) := fun j m u e => hn (List.mem_append_right _ (mem_muts.mpr ⟨j, m, u, e⟩))
  have sub : ∀ a, a ∈ hid c (ρ.set i (.mu l p o)) → a ∈ hid (c.hidden p) ρ := fun a m => by
    rcases List.mem_append.mp m with m | m
    · exact List.mem_append_left _ (List.mem_cons_of_mem _ m)
    · obtain ⟨j, l', u, e⟩ := mem_muts.mp m
      rcases get_set e with ⟨_, _, e⟩ | ⟨_, e⟩
      · cases e; exact List.mem_append_left _ (List.mem_cons_self ..)
      · exact List.mem_append_right _ (mem_muts.mpr ⟨j, l', u, e⟩)
  have e2 : Ex (hide (hid (c.hidden p) ρ) H) (hide (hid c (ρ.set i (.mu l p o))) H) := hide_mono fun a o n h => ⟨fun m => n (sub a m), h⟩
  refine ⟨by rw [List.length_set, List.length_set]; exact W.len, W.keep, hs, fun a h => W.dom a (List.mem_cons_of_mem _ h), fun q hq => dpm e2 (W.tmp q hq), fun j k l1 l2 a u u' h1 h2 => ?_, fun j a u h1 => ?_, fun j z hz => ?_⟩
  · rcases get_set h1 with ⟨q, _, e⟩ | ⟨q, e⟩
    · rcases get_set h2 with ⟨q2, _, e'⟩ | ⟨q2, e'⟩
      · exact q.symm.trans q2
      · cases e; exact absurd e' (nm k l2 u')
    · rcases get_set h2 with ⟨q2, _, e'⟩ | ⟨q2, e'⟩
      · cases e'; exact absurd e (nm j l1 u)
      · exact W.inj j k l1 l2 a u u' e e'
  · rcases get_set h1 with ⟨_, _, e⟩ | ⟨_, e⟩
    · cases e; exact fun m => hn (List.mem_append_left _ m)
    · exact fun m => W.ap j a u e (List.mem_cons_of_mem _ m)
  · rcases get_set hz with ⟨q, hi, e⟩ | ⟨q, e⟩
    · subst q; subst e
      rw [List.getElem?_set_self (by rw [W.len]; exact hi)]
      exact ⟨rfl, hB, h.mono e2 rfl⟩
    · rw [List.getElem?_set_ne q]
      have := slOk_mono (H' := H) e2 (fun _ _ => rfl) (W.ok j z e)
      cases z <;> exact this
/-- what may change has changed -/
theorem Wd.chg {a : Addr} {l : Bool} {o o' : MO} {i : Nat} (W : Wd c T H σ ρ) (hi : ρ[i]? = some (.mu l a o)) (hk : ∀ b u, b ≠ a → H b = some u → H' b = some u) (h : MoOk c.K (hid c ρ) H' a o') : Wd c T H' σ (ρ.set i (.mu l a o')) := by
  obtain ⟨h1, h2, h3⟩ := W.ok i _ hi
  have hm : a ∈ hid c ρ := List.mem_append_right _ (mem_muts.mpr ⟨i, l, o, hi⟩)
  have r : ∀ {j : Nat} {m : Bool} {b : Addr} {u : MO}, (ρ.set i (.mu l a o'))[j]? = some (.mu m b u) → ∃ u', ρ[j]? = some (.mu m b u') := fun {j m b u} h => by
    rcases get_set h with ⟨q, _, e⟩ | ⟨_, e⟩
    · cases e; subst q; exact ⟨_, hi⟩
    · exact ⟨_, e⟩
  have sub : ∀ b, b ∈ hid c (ρ.set i (.mu l a o')) → b ∈ hid c ρ := fun b m => by
    rcases List.mem_append.mp m with m | m
    · exact List.mem_append_left _ m
    · obtain ⟨j, m', v, e⟩ := mem_muts.mp m
      obtain ⟨v', e⟩ := r e
      exact List.mem_append_right _ (mem_muts.mpr ⟨j, m', v', e⟩)
  have e2 : Ex (hide (hid c ρ) H) (hide (hid c (ρ.set i (.mu l a o'))) H') := hide_mono fun b v n h => ⟨fun m => n (sub b m), hk b v (fun q => by rw [q] at n; exact n hm) h⟩
  have e3 : Ex (hide (hid c ρ) H') (hide (hid c (ρ.set i (.mu l a o'))) H') := hide_mono fun b v n h => ⟨fun m => n (sub b m), h⟩
  refine ⟨by rw [List.length_set]; exact W.len, fun b v n e => ?_, W.sub, fun b hb => ?_, fun q hq => dpm e2 (W.tmp q hq), fun j k m m' b v v' g1 g2 => ?_, fun j b v g => ?_, fun j z hz => ?_⟩
  · refine hk b v ?_ (W.keep b v n e)
    intro q
    subst q
    cases l with
    | true => rw [if_pos rfl] at h2; rw [h2] at e; cases e
    | false => rw [if_neg (by decide)] at h2; exact n h2
  · by_cases q : b = a
    · subst q; exact h.there
    · obtain ⟨o, e⟩ := W.dom b hb
      exact ⟨o, hk b o q e⟩
  · obtain ⟨w, g1⟩ := r g1
    obtain ⟨w', g2⟩ := r g2
    exact W.inj j k m m' b w w' g1 g2
  · obtain ⟨w, g⟩ := r g
    exact W.ap j b w g
  · rcases get_set hz with ⟨q, _, e⟩ | ⟨q, e⟩
    · subst q; subst e
      exact ⟨h1, h2, h.mono e3 rfl⟩
    · refine slOk_mono e2 (fun b eb => ?_) (W.ok j z e)
      cases z with
      | mu m b' v =>
        cases eb
        have nb : b ≠ a := fun eab => q (by rw [eab] at e; exact W.inj i j l m a _ _ hi e)
        obtain ⟨u, hu⟩ := (W.ok j _ e).2.2.there
        rw [hu, hk _ _ nb hu]
      | _ => cases eb
theorem Wd.updM {a : Addr} {l : Bool} {o o' : MO} {i : Nat} {u : HO} (W : Wd c T H σ ρ) (hi : ρ[i]? = some (.mu l a o)) (h : MoOk c.K (hid c ρ) (upd H a u) a o') : Wd c T (upd H a u) σ (ρ.set i (.mu l a o')) :=
  W.chg hi (fun b v n e => by rw [upd_ne n]; exact e) h
end
def MoLe (o u : MO) : Prop := o = u ∨ ∃ ds P, o = .lst ds ∧ u = .any P ∧ P ds
theorem MoOk.le {K : PySem.W.Frag} {S : List Addr} {H : Hp} {a : Addr} {o u : MO} (h : MoOk K S H a o) (l : MoLe o u) : MoOk K S H a u := by
  rcases l with rfl | ⟨ds, P, rfl, rfl, p⟩
  · exact h
  · obtain ⟨xs, h1, h2⟩ := h
    exact ⟨xs, h1, ds, p, h2⟩
/-- weaker: slots forgotten, things frozen -/
def slLe : Sl → Sl → Prop
  | _, .no => True
  | .da d, .da e => d = e
  | .mu l _ (.lst ds), .da e => l = true ∧ .list ds = e
  | .mu l a o, .mu m b u => l = m ∧ a = b ∧ MoLe o u
  | .vl v, .vl w => v = w
  | _, _ => False
theorem Wd.weak {c : Cz} {T : Tm} {H : Hp} {σ : L2.St} {ρ ρ' : List Sl} (W : Wd c T H σ ρ) (hl : ρ.length = ρ'.length) (h : ∀ (i : Nat) (s s' : Sl), ρ[i]? = some s → ρ'[i]? = some s' → slLe s s') : Wd c T H σ ρ' := by
  have gt : ∀ {i : Nat} {s' : Sl}, ρ'[i]? = some s' → ∃ s, ρ[i]? = some s ∧ slLe s s' := fun {i s'} e => by
    have hi := (List.getElem?_eq_some_iff.mp e).1
    have hi' : i < ρ.length := by omega
    exact ⟨_, List.getElem?_eq_getElem hi', h i _ _ (List.getElem?_eq_getElem hi') e⟩
  have r : ∀ {j : Nat} {m : Bool} {b : Addr} {u : MO}, ρ'[j]? = some (.mu m b u) → ∃ o, ρ[j]? = some (.mu m b o) := fun {j m b u} e => by
    obtain ⟨s, e1, l⟩ := gt e
    cases s with
    | mu l' a' o' =>
      obtain ⟨rfl, rfl, _⟩ : l' = m ∧ a' = b ∧ MoLe o' u := l
      exact ⟨_, e1⟩
    | _ => exact l.elim
  have sub : ∀ b, b ∈ hid c ρ' → b ∈ hid c ρ := fun b m => by
    rcases List.mem_append.mp m with m | m
    · exact List.mem_append_left _ m
    · obtain ⟨j, l, v, e⟩ := mem_muts.mp m
      obtain ⟨o, e⟩ := r e
      exact List.mem_append_right _ (mem_muts.mpr ⟨j, l, o, e⟩)
  have e2 : Ex (hide (hid c ρ) H) (hide (hid c ρ') H) := hide_mono fun a o n h => ⟨fun m => n (sub a m), h⟩
  refine ⟨W.len.trans hl, W.keep, W.sub, W.dom, fun q hq => dpm e2 (W.tmp q hq), fun i j l m a o u h1 h2 => W.inj i j l m a _ _ (r h1).choose_spec (r h2).choose_spec, fun i a o h => W.ap i a _ (r h).choose_spec, fun i s' e => ?_⟩
  obtain ⟨s, e1, le⟩ := gt e
  have ok := slOk_mono (H' := H) e2 (fun _ _ => rfl) (W.ok i s e1)
  cases s' with
  | no => exact trivial
  | da d =>
    cases s with
    | da e =>
      have le : e = d := le
      subst le
      exact ok
    | mu l a o =>
      cases o with
      | lst ds =>
        obtain ⟨rfl, rfl⟩ : l = true ∧ PyData.list ds = d := le
        obtain ⟨x, y, xs, z1, z2⟩ := ok
        rw [if_pos rfl] at y
        refine ⟨.ref a, x, .lst (sq_of (hide_of (fun m => ?_) z1)) z2⟩
        rcases List.mem_append.mp m with m | m
        · exact W.ap i a _ e1 m
        · obtain ⟨j, m', v, e'⟩ := mem_muts.mp m
          have := W.inj i j _ _ _ _ _ e1 (r e').choose_spec
          subst this
          rw [e] at e'
          cases e'
      | dK _ => exact le.elim
      | dT _ => exact le.elim
      | any _ => exact le.elim
    | no => exact le.elim
    | vl _ => exact le.elim
  | mu m b u =>
    cases s with
    | mu l a o =>
      obtain ⟨rfl, rfl, le⟩ : l = m ∧ a = b ∧ MoLe o u := le
      obtain ⟨x, y, z⟩ := ok
      exact ⟨x, y, z.le le⟩
    | _ => exact le.elim
  | vl w =>
    cases s with
    | vl v =>
      have le : v = w := le
      subst le
      exact ok
    | _ => exact le.elim

theorem set_no {ρ : List Sl} {j : Nat} (h : ρ[j]? = some .no) : ρ.set j .no = ρ := by
  apply List.ext_getElem?
  intro k
  by_cases q : j = k
  · subst q
    rw [List.getElem?_set_self (List.getElem?_eq_some_iff.mp h).1, h]
  · rw [List.getElem?_set_ne q]
theorem Wd.wipe {c : Cz} {T : Tm} {H : Hp} {σ : L2.St} {ρ : List Sl} : ∀ {vs : List Nat}, Wd c T H σ ρ → (∀ j ∈ vs, ρ[j]? = some .no) → Wd c T H (L2.wipe σ vs) ρ
  | [], W, _ => W
  | v :: vs, W, h => by
    have W1 := Wd.wipe (vs := vs) W fun j hj => h j (List.mem_cons_of_mem _ hj)
    have W2 := W1.setN v none .no rfl trivial
    rw [set_no (h v (List.mem_cons_self ..))] at W2
    exact W2
theorem wipe_get {σ : L2.St} {i : Nat} : ∀ {vs : List Nat}, i ∉ vs → (L2.wipe σ vs)[i]? = σ[i]?
  | [], _ => rfl
  | v :: vs, h => by
    show ((L2.wipe σ vs).set v none)[i]? = _
    have n : v ≠ i := fun e => h (by rw [e]; exact List.mem_cons_self ..)
    rw [List.getElem?_set_ne n, wipe_get fun m => h (List.mem_cons_of_mem _ m)]
theorem Wd.unwipe {c : Cz} {T : Tm} {H : Hp} {σ : L2.St} {ρ : List Sl} {vs : List Nat} (W : Wd c T H (L2.wipe σ vs) ρ) (h : ∀ j ∈ vs, ρ[j]? = some .no) : Wd c T H σ ρ := by
  refine ⟨by rw [← W.len, L2.wipe_length], W.keep, W.sub, W.dom, W.tmp, W.inj, W.ap, fun i s e => ?_⟩
  by_cases q : i ∈ vs
  · rw [h i q] at e; cases e; exact trivial
  · have := W.ok i s e
    rw [wipe_get q] at this
    exact this
end Nz

namespace Nz
open PySem PySem.Spec PyProof.Rows L2

/-! ### what evaluates to what -/
def Ed (c : Cz) (ρ : List Sl) (te : TE) (d : PyData) (ρ' : List Sl) : Prop := ∀ (T : Tm) (σ : L2.St) (H : Hp), Wd c T H σ ρ → ∀ Q : VK, (∀ v H', Wd c ((v, d) :: T) H' σ ρ' → Q v H') → te σ H Q
def Et (c : Cz) (ρ : List Sl) (tt : TT) (b : Bool) (ρ' : List Sl) : Prop := ∀ (T : Tm) (σ : L2.St) (H : Hp), Wd c T H σ ρ → ∀ Q : Bool → Hp → Prop, (∀ H', Wd c T H' σ ρ' → Q b H') → tt σ H Q
/-- a new list -/
def EdL (c : Cz) (ρ : List Sl) (te : TE) (ds : List PyData) (ρ' : List Sl) : Prop := ∀ (T : Tm) (σ : L2.St) (H : Hp), Wd c T H σ ρ → ∀ Q : VK,
  (∀ p H', c.B p = none → p ∉ hid c ρ' → MoOk c.K (p :: hid c ρ') H' p (.lst ds) → Wd (c.hidden p) T H' σ ρ' → Q (.ref p) H') → te σ H Q
inductive Ar where
  | raw (v : V)
  | dat (d : PyData)
inductive AA (K : PySem.W.Frag) (H : Hp) : List V → List Ar → Prop
  | nil : AA K H [] []
  | raw {v : V} {vs : List V} {as : List Ar} : AA K H vs as → AA K H (v :: vs) (.raw v :: as)
  | dat {v : V} {d : PyData} {vs : List V} {as : List Ar} : Dz K H v d → AA K H vs as → AA K H (v :: vs) (.dat d :: as)
def Ea (c : Cz) (ρ : List Sl) (ta : TA) (as : List Ar) (ρ' : List Sl) : Prop := ∀ (T : Tm) (σ : L2.St) (H : Hp), Wd c T H σ ρ → ∀ Q : List V → Hp → Prop,
  (∀ vs H', AA c.K (hide (hid c ρ') H') vs as → Wd c T H' σ ρ' → Q vs H') → ta σ H Q
/-- a part of a slice -/
def Eo (c : Cz) (ρ : List Sl) (to : TO) (o : Option Int) (ρ' : List Sl) : Prop := ∀ (T : Tm) (σ : L2.St) (H : Hp), Wd c T H σ ρ → ∀ Q : Option Int → Hp → Prop, (∀ H', Wd c T H' σ ρ' → Q o H') → to σ H Q

section
variable {c : Cz} {ρ ρ1 ρ2 ρ3 : List Sl} {ta tb te tx : TE} {t u : TT} {d d1 d2 d3 : PyData} {T : Tm} {H H' : Hp} {σ : L2.St}
theorem Wd.dp {v : V} {d : PyData} {ρ : List Sl} (W : Wd c ((v, d) :: T) H σ ρ) : Dz c.K (hide (hid c ρ) H) v d := W.tmp (v, d) (List.mem_cons_self ..)
theorem ed_is (h : Ed c ρ te d ρ1) (e : d = d1) : Ed c ρ te d1 ρ1 := e ▸ h
theorem et_is {b b1 : Bool} (h : Et c ρ t b ρ1) (e : b = b1) : Et c ρ t b1 ρ1 := e ▸ h
theorem el_is {ds ds1 : List PyData} (h : EdL c ρ te ds ρ1) (e : ds = ds1) : EdL c ρ te ds1 ρ1 := e ▸ h
theorem ed_var {i : Nat} (h : ρ[i]? = some (.da d)) : Ed c ρ (tVar i) d ρ := fun T σ H W Q q => by
  obtain ⟨v, e, dp⟩ := W.ok i _ h
  exact ⟨v, e, q v H (W.push dp)⟩
theorem ed_int {i : Int} : Ed c ρ (tC (.int i)) (.int i) ρ := fun T σ H W Q q => q _ H (W.push (.int i))
theorem ed_bl {b : Bool} : Ed c ρ (tC (.bl b)) (.bool b) ρ := fun T σ H W Q q => q _ H (W.push (.bl b))
theorem ed_str {x : Str} : Ed c ρ (tC (.str x)) (.str x) ρ := fun T σ H W Q q => q _ H (W.push (.str x))
theorem ed_non : Ed c ρ (tC .non) .none ρ := fun T σ H W Q q => q _ H (W.push .non)
/-- a constant of the module -/
theorem ed_ref {a : Addr} (h : ∀ H, Dz c.K H (.ref a) d) : Ed c ρ (tC (.ref a)) d ρ := fun T σ H W Q q => q _ H (W.push (h _))
theorem ed_ofL {ds : List PyData} (h : EdL c ρ te ds ρ1) (hs : ∀ a ∈ c.M, a ∈ c.S0) : Ed c ρ te (.list ds) ρ1 := fun T σ H W Q q => h T σ H W Q fun p H' hB hn hm W' => by
  have W2 := W'.unhide hs
  obtain ⟨xs, h1, h2⟩ := hm
  have e2 : Ex (hide (p :: hid c ρ1) H') (hide (hid c ρ1) H') := hide_mono fun a o n h => ⟨fun m => n (List.mem_cons_of_mem _ m), h⟩
  exact q _ H' (W2.push (.lst (sq_of (hide_of hn h1)) (dpam e2 h2)))
theorem ed_L {ds : List PyData} (h : EdL c ρ te ds ρ1) : Ed c ρ te (.list ds) ρ1 := fun T σ H W => ed_ofL h W.sub T σ H W
/-! #### operators -/
theorem ed_op {r : R2} (ha : Ed c ρ ta d1 ρ1) (hb : Ed c ρ1 tb d2 ρ2)
    (hr : ∀ (T : Tm) (σ : L2.St) (H : Hp) (x y : V), Wd c T H σ ρ2 → Dz c.K (hide (hid c ρ2) H) x d1 → Dz c.K (hide (hid c ρ2) H) y d2 → ∀ Q : VK, (∀ v H', Wd c ((v, d) :: T) H' σ ρ2 → Q v H') → r x y H Q) : Ed c ρ (tOp r ta tb) d ρ2 :=
  fun T σ H W Q q => ha T σ H W _ fun v H1 W1 => hb _ σ H1 W1 _ fun w H2 W2 => hr T σ H2 v w W2.pop.pop W2.pop.dp W2.dp Q q
theorem ed_I0 {f : Int → Int → Int} {i j : Int} (ha : Ed c ρ ta (.int i) ρ1) (hb : Ed c ρ1 tb (.int j) ρ2) : Ed c ρ (tOp (rI0 fun i j => .int (f i j)) ta tb) (.int (f i j)) ρ2 :=
  ed_op ha hb fun T σ H x y W hx hy Q q => ⟨i, j, dp_int hx, dp_int hy, q _ H (W.push (.int _))⟩
theorem ed_B0 {f : Int → Int → Bool} {i j : Int} (ha : Ed c ρ ta (.int i) ρ1) (hb : Ed c ρ1 tb (.int j) ρ2) : Ed c ρ (tOp (rI0 fun i j => .bl (f i j)) ta tb) (.bool (f i j)) ρ2 :=
  ed_op ha hb fun T σ H x y W hx hy Q q => ⟨i, j, dp_int hx, dp_int hy, q _ H (W.push (.bl _))⟩
theorem ed_I {C : Int → Int → Prop} {f : Int → Int → Int} {i j : Int} (ha : Ed c ρ ta (.int i) ρ1) (hb : Ed c ρ1 tb (.int j) ρ2) (hc : C i j) : Ed c ρ (tOp (rI C fun i j => .int (f i j)) ta tb) (.int (f i j)) ρ2 :=
  ed_op ha hb fun T σ H x y W hx hy Q q => ⟨i, j, dp_int hx, dp_int hy, hc, q _ H (W.push (.int _))⟩
theorem ed_neg {f : Int → Int} {i : Int} (ha : Ed c ρ ta (.int i) ρ1) : Ed c ρ (tUn (rU fun i => .int (f i)) ta) (.int (f i)) ρ1 := fun T σ H W Q q => ha T σ H W _ fun v H1 W1 => ⟨i, dp_int W1.dp, q _ H1 (W1.pop.push (.int _))⟩
theorem ed_eq (ha : Ed c ρ ta d1 ρ1) (hb : Ed c ρ1 tb d2 ρ2) (s1 : SeqAt.shaped d1 = true) (s2 : SeqAt.shaped d2 = true) : Ed c ρ (tOp (rEqD c.K) ta tb) (.bool (PyData.eqv d1 d2)) ρ2 :=
  ed_op ha hb fun T σ H x y W hx hy Q q => ⟨d1, d2, dz_dp _ _ (dpm (hide_ex _ _) hx), dz_dp _ _ (dpm (hide_ex _ _) hy), s1, s2, q _ H (W.push (.bl _))⟩
theorem ed_ne (ha : Ed c ρ ta d1 ρ1) (hb : Ed c ρ1 tb d2 ρ2) (s1 : SeqAt.shaped d1 = true) (s2 : SeqAt.shaped d2 = true) : Ed c ρ (tOp (rNeD c.K) ta tb) (.bool (!PyData.eqv d1 d2)) ρ2 :=
  ed_op ha hb fun T σ H x y W hx hy Q q => ⟨d1, d2, dz_dp _ _ (dpm (hide_ex _ _) hx), dz_dp _ _ (dpm (hide_ex _ _) hy), s1, s2, q _ H (W.push (.bl _))⟩
/-- is None, is not None -/
def isNone : PyData → Bool
  | .none => true
  | _ => false
theorem dp_isN {K : PySem.W.Frag} {v : V} (h : Dz K H v d) : decide (v = .non) = isNone d := by
  cases h <;> first | rfl | exact decide_eq_false (fun e => by cases e)
theorem ed_isN (ha : Ed c ρ ta d ρ1) : Ed c ρ (tOp (fun x y H Q => y = .non ∧ Q (.bl (decide (x = .non))) H) ta (tC .non)) (.bool (isNone d)) ρ1 := fun T σ H W Q q => ha T σ H W _ fun v H1 W1 => ⟨rfl, by
  rw [dp_isN W1.dp]
  exact q _ H1 (W1.pop.push (.bl _))⟩
theorem ed_notN (ha : Ed c ρ ta d ρ1) : Ed c ρ (tOp (fun x y H Q => y = .non ∧ Q (.bl (!decide (x = .non))) H) ta (tC .non)) (.bool (!isNone d)) ρ1 := fun T σ H W Q q => ha T σ H W _ fun v H1 W1 => ⟨rfl, by
  rw [dp_isN W1.dp]
  exact q _ H1 (W1.pop.push (.bl _))⟩
/-! #### displays, arguments -/
theorem ea_nil : Ea c ρ tNil [] ρ := fun T σ H W Q q => q [] H .nil W
theorem ea_cons {ts : TA} {as : List Ar} (h : Ed c ρ te d ρ1) (hr : Ea c ρ1 ts as ρ2) : Ea c ρ (tCons te ts) (.dat d :: as) ρ2 := fun T σ H W Q q => h T σ H W _ fun v H1 W1 => hr _ σ H1 W1 _ fun vs H2 a W2 => q _ H2 (.dat W2.dp a) W2.pop
theorem ea_raw {ts : TA} {as : List Ar} {i : Nat} {a : Addr} {l : Bool} {o : MO} (h : ρ[i]? = some (.mu l a o)) (hr : Ea c ρ ts as ρ2) : Ea c ρ (tCons (tVar i) ts) (.raw (.ref a) :: as) ρ2 := fun T σ H W Q q =>
  ⟨.ref a, (W.ok i _ h).1, hr T σ H W _ fun vs H2 a W2 => q _ H2 (.raw a) W2⟩
theorem ea_vl {ts : TA} {as : List Ar} {i : Nat} {v : V} (h : ρ[i]? = some (.vl v)) (hr : Ea c ρ ts as ρ2) : Ea c ρ (tCons (tVar i) ts) (.raw v :: as) ρ2 := fun T σ H W Q q =>
  ⟨v, W.ok i _ h, hr T σ H W _ fun vs H2 a W2 => q _ H2 (.raw a) W2⟩
theorem ea_c {ts : TA} {as : List Ar} {v : V} (hr : Ea c ρ ts as ρ2) : Ea c ρ (tCons (tC v) ts) (.raw v :: as) ρ2 := fun T σ H W Q q => hr T σ H W _ fun vs H2 a W2 => q _ H2 (.raw a) W2
theorem aa_dats {K : PySem.W.Frag} : ∀ {ds : List PyData} {vs : List V}, AA K H vs (ds.map .dat) → DzAll K H vs ds
  | [], _, h => by cases h; exact .nil
  | d :: ds, _, h => by
    cases h with
    | dat h1 h2 => exact .cons h1 (aa_dats h2)
theorem dpa_sz {K : PySem.W.Frag} {ds : List PyData} {vs : List V} (h : DzAll K H vs ds) (hl : ds.length ≤ 100000) : vs.length ≤ sizeLine := by
  rw [dpa_length h]; exact Nat.le_trans hl (by decide)
/-- (a, b, ..): a new tuple with no dict -/
def tTupF (t : TA) : TE := fun σ H Q => t σ H fun xs H1 => xs.length ≤ sizeLine ∧ ∀ p o, o.dict = none → H1 p = none → Q (.ref p) (upd H1 p (.frz o (.tup xs)))
theorem tup_new {ds : List PyData} {vs : List V} {p : Addr} {o : Obj} (W : Wd c T H σ ρ) (a : DzAll c.K (hide (hid c ρ) H) vs ds) (z : o.dict = none) (hp : H p = none) : Wd c ((.ref p, .tuple ds) :: T) (upd H p (.frz o (.tup vs))) σ ρ := by
  have W2 := W.grow (Ex.new (o := .frz o (.tup vs)) hp)
  have e2 : Ex (hide (hid c ρ) H) (hide (hid c ρ) (upd H p (.frz o (.tup vs)))) := hide_mono fun a o n h => ⟨n, Ex.new hp a o h⟩
  exact W2.push (.tup (pt_of (hide_of (W.fresh hp) upd_same) z) (dpam e2 a))
theorem ed_tup {ts : TA} {ds : List PyData} (h : Ea c ρ ts (ds.map .dat) ρ1) (hl : Nat.ble ds.length 100000 = true := by rfl) : Ed c ρ (tTupF ts) (.tuple ds) ρ1 := fun T σ H W Q q => h T σ H W _ fun vs H1 a W1 => ⟨dpa_sz (aa_dats a) (Nat.le_of_ble_eq_true hl), fun p o z hp =>
  q _ _ (tup_new W1 (aa_dats a) z hp)⟩
theorem el_new {ds : List PyData} {vs : List V} {p : Addr} (W : Wd c T H σ ρ) (a : DzAll c.K (hide (hid c ρ) H) vs ds) (hp : H p = none) :
    c.B p = none ∧ p ∉ hid c ρ ∧ MoOk c.K (p :: hid c ρ) (upd H p (.lst vs)) p (.lst ds) ∧ Wd (c.hidden p) T (upd H p (.lst vs)) σ ρ := by
  have e2 : Ex (hide (hid c ρ) H) (hide (p :: hid c ρ) (upd H p (.lst vs))) := hide_mono fun b u m e => ⟨fun q => by
    rcases List.mem_cons.mp q with q | q
    · rw [q, hp] at e; cases e
    · exact m q, Ex.new hp b u e⟩
  exact ⟨W.freshB hp, W.fresh hp, ⟨vs, upd_same, dpam e2 a⟩, W.hideNew hp⟩
theorem el_lst {ts : TA} {ds : List PyData} (h : Ea c ρ ts (ds.map .dat) ρ1) (hl : Nat.ble ds.length 100000 = true := by rfl) : EdL c ρ (tLst ts) ds ρ1 := fun T σ H W Q q => h T σ H W _ fun vs H1 a W1 => ⟨dpa_sz (aa_dats a) (Nat.le_of_ble_eq_true hl), fun p hp => by
  obtain ⟨x1, x2, x3, x4⟩ := el_new W1 (aa_dats a) hp
  exact q p _ x1 x2 x3 x4⟩
/-! #### subscripts, slices -/
theorem atI_dp {K : PySem.W.Frag} {ds : List PyData} {xs : List V} {i : Int} (h : DzAll K H xs ds) (e : atI ds i = some d) : ∃ v, atI xs i = some v ∧ Dz K H v d := by
  unfold atI at e ⊢
  rw [dpa_length h]
  cases q : ixN ds.length i with
  | none => rw [q] at e; cases e
  | some j =>
    rw [q] at e
    exact dpa_get h e
theorem ed_ixT {i : Int} {ds : List PyData} (ha : Ed c ρ ta (.tuple ds) ρ1) (hb : Ed c ρ1 tb (.int i) ρ2) (e : atI ds i = some d) : Ed c ρ (tOp (rIxT c.K) ta tb) d ρ2 :=
  ed_op ha hb fun T σ H x y W hx hy Q q => by
    obtain ⟨a, xs, rfl, hs, h2⟩ := dp_tup hx
    obtain ⟨v, h3, h4⟩ := atI_dp h2 e
    exact ⟨a, xs, i, v, rfl, dp_int hy, (ex_p (hide_ex _ _) hs).sq, h3, q _ H (W.push h4)⟩
theorem ed_ixL {i : Int} {ds : List PyData} (ha : Ed c ρ ta (.list ds) ρ1) (hb : Ed c ρ1 tb (.int i) ρ2) (e : atI ds i = some d) : Ed c ρ (tOp (rIxL c.K) ta tb) d ρ2 :=
  ed_op ha hb fun T σ H x y W hx hy Q q => by
    obtain ⟨a, xs, rfl, hs, h2⟩ := dp_lst hx
    obtain ⟨v, h3, h4⟩ := atI_dp h2 e
    exact ⟨a, xs, i, v, rfl, dp_int hy, ex_l (hide_ex _ _) hs, h3, q _ H (W.push h4)⟩
/-- of a list that may change -/
theorem ed_ixM {i : Int} {ds : List PyData} {j : Nat} {l : Bool} {a : Addr} (hb : Ed c ρ tb (.int i) ρ1) (ha : ρ1[j]? = some (.mu l a (.lst ds))) (ha0 : ∃ l o, ρ[j]? = some (.mu l a o)) (e : atI ds i = some d) : Ed c ρ (tOp (rIxL c.K) (tVar j) tb) d ρ1 := fun T σ H W Q q => by
  obtain ⟨l0, o0, h0⟩ := ha0
  refine ⟨.ref a, (W.ok j _ h0).1, hb T σ H W _ fun v H1 W1 => ?_⟩
  obtain ⟨_, _, xs, h1, h2⟩ := W1.ok j _ ha
  obtain ⟨w, h3, h4⟩ := atI_dp h2 e
  exact ⟨a, xs, i, w, rfl, dp_int W1.dp, sq_of h1, h3, q _ H1 (W1.pop.push h4)⟩
theorem eo_no : Eo c ρ tNoPart none ρ := fun T σ H W Q q => q H W
theorem eo_some {i : Int} (h : Ed c ρ te (.int i) ρ1) : Eo c ρ (tPart te) (some i) ρ1 := fun T σ H W Q q => h T σ H W _ fun v H1 W1 => ⟨i, dp_int W1.dp, q H1 W1.pop⟩
def cutD (ds : List PyData) (lo hi : Option Int) : List PyData := (ds.drop (HT.sIx ds.length 0 lo)).take (HT.sIx ds.length ds.length hi - HT.sIx ds.length 0 lo)
theorem cut_dp {K : PySem.W.Frag} {ds : List PyData} {xs : List V} (h : DzAll K H xs ds) (lo hi : Option Int) : DzAll K H (cutV xs lo hi) (cutD ds lo hi) := by
  unfold cutV cutD
  rw [dpa_length h]
  exact dpa_take _ (dpa_drop _ h)
theorem el_slice {ds : List PyData} {tl th : TO} {lo hi : Option Int} (ha : Ed c ρ ta (.list ds) ρ1) (hl : Eo c ρ1 tl lo ρ2) (hh : Eo c ρ2 th hi ρ3) : EdL c ρ (tSl (rSlL c.K) ta tl th) (cutD ds lo hi) ρ3 := fun T σ H W Q q =>
  ha T σ H W _ fun v H1 W1 => hl _ σ H1 W1 _ fun H2 W2 => hh _ σ H2 W2 _ fun H3 W3 => by
    obtain ⟨a, xs, rfl, hs, h2⟩ := dp_lst W3.dp
    refine ⟨a, xs, rfl, ex_l (hide_ex _ _) hs, fun p hp => ?_⟩
    obtain ⟨x1, x2, x3, x4⟩ := el_new W3.pop (cut_dp h2 lo hi) hp
    exact q p _ x1 x2 x3 x4
/-! #### tests -/
theorem et_test {b : Bool} (h : Ed c ρ te (.bool b) ρ1) : Et c ρ (tTest te) b ρ1 := fun T σ H W Q q => h T σ H W _ fun v H1 W1 => ⟨b, dp_bl W1.dp, q H1 W1.pop⟩
theorem et_B {b : Bool} (h : Ed c ρ te (.bool b) ρ1) : Et c ρ (tB te) b ρ1 := fun T σ H W Q q => h T σ H W _ fun v H1 W1 => ⟨b, dp_bl W1.dp, q H1 W1.pop⟩
def truD : PyData → Bool
  | .none => false
  | .bool b => b
  | .int i => i != 0
  | .list ds => !ds.isEmpty
  | .tuple ds => !ds.isEmpty
  | _ => false
def truOk : PyData → Bool
  | .str _ => false
  | .dict _ => false
  | _ => true
theorem isEmpty_dp {K : PySem.W.Frag} {ds : List PyData} {xs : List V} (h : DzAll K H xs ds) : xs.isEmpty = ds.isEmpty := by cases h <;> rfl
theorem tru_dp {K : PySem.W.Frag} {v : V} (h : Dz K H v d) (ok : truOk d = true) : TruV K v H (truD d) := by
  cases h with
  | non => rfl
  | bl b => rfl
  | int i => rfl
  | str x => cases ok
  | lst hs ha => exact .inl ⟨_, hs, by rw [isEmpty_dp ha]; rfl⟩
  | tup hs ha => exact .inr (.inl ⟨_, hs.sq, by rw [isEmpty_dp ha]; rfl⟩)
theorem et_tru (h : Ed c ρ te d ρ1) (ok : truOk d = true := by rfl) : Et c ρ (fun σ H Q => te σ H fun x H' => ∃ k, TruV c.K x H' k ∧ Q k H') (truD d) ρ1 := fun T σ H W Q q => h T σ H W _ fun v H1 W1 => ⟨_, tru_dp (dpm (hide_ex _ _) W1.dp) ok, q H1 W1.pop⟩
theorem et_and {a b : Bool} (h1 : Et c ρ t a ρ1) (h2 : a = true → Et c ρ1 u b ρ1) : Et c ρ (tAnd t u) (a && b) ρ1 := fun T σ H W Q q => h1 T σ H W _ fun H1 W1 => by
  cases a with
  | true => exact h2 rfl T σ H1 W1 Q q
  | false => exact q H1 W1
theorem et_or {a b : Bool} (h1 : Et c ρ t a ρ1) (h2 : a = false → Et c ρ1 u b ρ1) : Et c ρ (tOr t u) (a || b) ρ1 := fun T σ H W Q q => h1 T σ H W _ fun H1 W1 => by
  cases a with
  | true => exact q H1 W1
  | false => exact h2 rfl T σ H1 W1 Q q
theorem et_not {a : Bool} (h1 : Et c ρ t a ρ1) : Et c ρ (tNot t) (!a) ρ1 := fun T σ H W Q q => h1 T σ H W _ fun H1 W1 => q H1 W1
theorem ed_and {a b : Bool} (h1 : Ed c ρ ta (.bool a) ρ1) (h2 : a = true → Ed c ρ1 tb (.bool b) ρ1) : Ed c ρ (tAndV ta tb) (.bool (a && b)) ρ1 := fun T σ H W Q q => h1 T σ H W _ fun v H1 W1 => ⟨a, dp_bl W1.dp, by
  cases a with
  | true => exact h2 rfl T σ H1 W1.pop Q q
  | false => exact q _ H1 (W1.pop.push (.bl _))⟩
theorem ed_or {a b : Bool} (h1 : Ed c ρ ta (.bool a) ρ1) (h2 : a = false → Ed c ρ1 tb (.bool b) ρ1) : Ed c ρ (tOrV ta tb) (.bool (a || b)) ρ1 := fun T σ H W Q q => h1 T σ H W _ fun v H1 W1 => ⟨a, dp_bl W1.dp, by
  cases a with
  | true => exact q _ H1 (W1.pop.push (.bl _))
  | false => exact h2 rfl T σ H1 W1.pop Q q⟩
theorem ed_not {a : Bool} (h1 : Ed c ρ ta (.bool a) ρ1) : Ed c ρ (tNotV ta) (.bool (!a)) ρ1 := fun T σ H W Q q => h1 T σ H W _ fun v H1 W1 => ⟨a, dp_bl W1.dp, q _ H1 (W1.pop.push (.bl _))⟩
theorem ed_if {b : Bool} (h : Et c ρ t b ρ1) (h1 : b = true → Ed c ρ1 ta d ρ2) (h2 : b = false → Ed c ρ1 tb d ρ2) : Ed c ρ (tIf t ta tb) d ρ2 := fun T σ H W Q q => h T σ H W _ fun H1 W1 => by
  cases b with
  | true => exact h1 rfl T σ H1 W1 Q q
  | false => exact h2 rfl T σ H1 W1 Q q
/-- a op b op c of ints -/
theorem ed_chain {f g : Int → Int → Bool} {i j k : Int} {tc : TE} (ha : Ed c ρ ta (.int i) ρ1) (hb : Ed c ρ1 tb (.int j) ρ2) (hc : f i j = true → Ed c ρ2 tc (.int k) ρ2) :
    Ed c ρ (tChain (rI0 fun i j => .bl (f i j)) (rI0 fun i j => .bl (g i j)) ta tb tc) (.bool (f i j && g j k)) ρ2 := fun T σ H W Q q => ha T σ H W _ fun v H1 W1 => hb _ σ H1 W1 _ fun w H2 W2 =>
  ⟨i, j, dp_int W2.pop.dp, dp_int W2.dp, f i j, rfl, by
    cases e : f i j with
    | true =>
      refine hc e _ σ H2 W2 _ fun z H3 W3 => ⟨j, k, dp_int W3.pop.dp, dp_int W3.dp, ?_⟩
      rw [e, Bool.true_and] at q
      exact q _ H3 (W3.pop.pop.pop.push (.bl _))
    | false =>
      rw [e, Bool.false_and] at q
      exact q _ H2 (W2.pop.pop.push (.bl _))⟩
/-! #### calls -/
/-- a pure def's promise: from data to data, by R -/
def SpP (K : PySem.W.Frag) (R : List PyData → PyData → Prop) : Sp := fun vs H Q _ => ∃ (S : List Addr) (ds : List PyData) (d : PyData), (∀ a ∈ S, ∃ o, H a = some o) ∧ DzAll K (hide S H) vs ds ∧ R ds d ∧
  ∀ v H', Ex H H' → Dz K (hide S H') v d → Q v H'
theorem ed_call {R : List PyData → PyData → Prop} {ts : TA} {ds : List PyData} {E : XK} (h : Ea c ρ ts (ds.map .dat) ρ1) (hR : R ds d) : Ed c ρ (tCall (SpP c.K R) [] E ts) d ρ1 := fun T σ H W Q q => h T σ H W _ fun vs H1 a W1 => by
  rw [List.append_nil]
  exact ⟨hid c ρ1, ds, d, fun a h => W1.there h, aa_dats a, hR, fun v H' e dp => q v H' ((W1.grow e).push dp)⟩
/-- a def's promise that changes its first argument -/
def SpS (K : PySem.W.Frag) (R : MO → List PyData → MO → PyData → Prop) : Sp := fun vs H Q _ => ∃ (S : List Addr) (a : Addr) (st st' : MO) (vs' : List V) (ds : List PyData) (d : PyData), vs = .ref a :: vs' ∧ a ∈ S ∧ (∀ b ∈ S, ∃ o, H b = some o) ∧
  MoOk K S H a st ∧ DzAll K (hide S H) vs' ds ∧ R st ds st' d ∧ ∀ v H', (∀ b o, b ≠ a → H b = some o → H' b = some o) → MoOk K S H' a st' → Dz K (hide S H') v d → Q v H'
theorem ed_callS {R : MO → List PyData → MO → PyData → Prop} {ts : TA} {ds : List PyData} {E : XK} {i : Nat} {l : Bool} {a : Addr} {st st' : MO} (h : Ea c ρ ts (.raw (.ref a) :: ds.map .dat) ρ1) (hi : ρ1[i]? = some (.mu l a st)) (hR : R st ds st' d) :
    Ed c ρ (tCall (SpS c.K R) [] E ts) d (ρ1.set i (.mu l a st')) := fun T σ H W Q q => h T σ H W _ fun vs H1 aa W1 => by
  rw [List.append_nil]
  cases aa with
  | raw aa =>
    have hm : a ∈ hid c ρ1 := List.mem_append_right _ (mem_muts.mpr ⟨i, l, st, hi⟩)
    refine ⟨hid c ρ1, a, st, st', _, ds, d, rfl, hm, fun a h => W1.there h, (W1.ok i _ hi).2.2, aa_dats aa, hR, fun v H' hk mo dp => q v H' ((W1.chg hi hk mo).push ?_)⟩
    refine dpm (hide_mono fun b o n e => ⟨fun m => n ?_, e⟩) dp
    rcases List.mem_append.mp m with m | m
    · exact List.mem_append_left _ m
    · obtain ⟨j, m', u, e⟩ := mem_muts.mp m
      rcases get_set e with ⟨_, _, e⟩ | ⟨_, e⟩
      · cases e; exact hm
      · exact List.mem_append_right _ (mem_muts.mpr ⟨j, m', u, e⟩)
/-! #### built-ins -/
theorem ed_cb {r : List V → Hp → VK → Prop} {ts : TA} {as : List Ar} (h : Ea c ρ ts as ρ1)
    (hr : ∀ (T : Tm) (σ : L2.St) (H : Hp) (vs : List V), Wd c T H σ ρ1 → AA c.K (hide (hid c ρ1) H) vs as → ∀ Q : VK, (∀ v H', Wd c ((v, d) :: T) H' σ ρ1 → Q v H') → r vs H Q) : Ed c ρ (tCB r ts) d ρ1 :=
  fun T σ H W Q q => h T σ H W _ fun vs H1 a W1 => hr T σ H1 vs W1 a Q q
theorem aa1 {K : PySem.W.Frag} {vs : List V} (a : AA K H vs [.dat d]) : ∃ v, vs = [v] ∧ Dz K H v d := by
  cases a with
  | dat h t => cases t; exact ⟨_, rfl, h⟩
theorem aa2 {K : PySem.W.Frag} {vs : List V} (a : AA K H vs [.dat d, .dat d1]) : ∃ v w, vs = [v, w] ∧ Dz K H v d ∧ Dz K H w d1 := by
  cases a with
  | dat h t =>
    obtain ⟨w, rfl, h2⟩ := aa1 t
    exact ⟨_, w, rfl, h, h2⟩
def rLenS (K : PySem.W.Frag) : List V → Hp → VK → Prop := fun xs H Q => ∃ p ys, xs = [.ref p] ∧ (SqL K H p ys ∨ SqT K H p ys) ∧ Q (.int ys.length) H
theorem ed_lenT {ds : List PyData} (h : Ed c ρ te (.tuple ds) ρ1) : Ed c ρ (tCB (rLenS c.K) (tCons te tNil)) (.int (ds.length : Int)) ρ1 := fun T σ H W Q q => h T σ H W _ fun v H1 W1 => by
  obtain ⟨a, xs, rfl, hs, h2⟩ := dp_tup W1.dp
  refine ⟨a, xs, rfl, .inr (ex_p (hide_ex _ _) hs).sq, ?_⟩
  rw [dpa_length h2]
  exact q _ H1 (W1.pop.push (.int _))
theorem ed_lenL {ds : List PyData} (h : Ed c ρ te (.list ds) ρ1) : Ed c ρ (tCB (rLenS c.K) (tCons te tNil)) (.int (ds.length : Int)) ρ1 := fun T σ H W Q q => h T σ H W _ fun v H1 W1 => by
  obtain ⟨a, xs, rfl, hs, h2⟩ := dp_lst W1.dp
  refine ⟨a, xs, rfl, .inl (ex_l (hide_ex _ _) hs), ?_⟩
  rw [dpa_length h2]
  exact q _ H1 (W1.pop.push (.int _))
theorem ed_lenM {ds : List PyData} {j : Nat} {l : Bool} {a : Addr} (ha : ρ[j]? = some (.mu l a (.lst ds))) : Ed c ρ (tCB (rLenS c.K) (tCons (tVar j) tNil)) (.int (ds.length : Int)) ρ := fun T σ H W Q q => by
  obtain ⟨h0, _, xs, h1, h2⟩ := W.ok j _ ha
  refine ⟨.ref a, h0, a, xs, rfl, .inl (sq_of h1), ?_⟩
  rw [dpa_length h2]
  exact q _ H (W.push (.int _))
theorem ed_abs {i : Int} (h : Ed c ρ te (.int i) ρ1) : Ed c ρ (tCB (fun xs H Q => ∃ i, xs = [.int i] ∧ Q (.int (if i < 0 then -i else i)) H) (tCons te tNil)) (.int (i.natAbs : Int)) ρ1 := fun T σ H W Q q => h T σ H W _ fun v H1 W1 => by
  refine ⟨i, by rw [dp_int W1.dp], ?_⟩
  have e : (if i < 0 then -i else i) = (i.natAbs : Int) := by split <;> omega
  rw [e]
  exact q _ H1 (W1.pop.push (.int _))
theorem ed_intI {i : Int} (h : Ed c ρ te (.int i) ρ1) : Ed c ρ (tCB (fun xs H Q => (∃ i, xs = [.int i] ∧ Q (.int i) H) ∨ ∃ k, xs = [.bl k] ∧ Q (.int (if k then 1 else 0)) H) (tCons te tNil)) (.int i) ρ1 := fun T σ H W Q q => h T σ H W _ fun v H1 W1 =>
  .inl ⟨i, by rw [dp_int W1.dp], q _ H1 (W1.pop.push (.int _))⟩
theorem ed_intB {b : Bool} (h : Ed c ρ te (.bool b) ρ1) : Ed c ρ (tCB (fun xs H Q => (∃ i, xs = [.int i] ∧ Q (.int i) H) ∨ ∃ k, xs = [.bl k] ∧ Q (.int (if k then 1 else 0)) H) (tCons te tNil)) (.int (if b then 1 else 0)) ρ1 := fun T σ H W Q q => h T σ H W _ fun v H1 W1 =>
  .inr ⟨b, by rw [dp_bl W1.dp], q _ H1 (W1.pop.push (.int _))⟩
theorem el_listOf {te : TE} {ds : List PyData} (h : Ed c ρ te (.list ds) ρ1 ∨ Ed c ρ te (.tuple ds) ρ1) :
    EdL c ρ (tCB (fun xs H Q => ∃ p ys, xs = [.ref p] ∧ (SqL c.K H p ys ∨ SqT c.K H p ys) ∧ ∀ l, H l = none → Q (.ref l) (upd H l (.lst ys))) (tCons te tNil)) ds ρ1 := fun T σ H W Q q => by
  rcases h with h | h
  · refine h T σ H W _ fun v H1 W1 => ?_
    obtain ⟨a, xs, rfl, hs, h2⟩ := dp_lst W1.dp
    refine ⟨a, xs, rfl, .inl (ex_l (hide_ex _ _) hs), fun p hp => ?_⟩
    obtain ⟨x1, x2, x3, x4⟩ := el_new W1.pop h2 hp
    exact q p _ x1 x2 x3 x4
  · refine h T σ H W _ fun v H1 W1 => ?_
    obtain ⟨a, xs, rfl, hs, h2⟩ := dp_tup W1.dp
    refine ⟨a, xs, rfl, .inr (ex_p (hide_ex _ _) hs).sq, fun p hp => ?_⟩
    obtain ⟨x1, x2, x3, x4⟩ := el_new W1.pop h2 hp
    exact q p _ x1 x2 x3 x4
/-- tuple(..) of a list: a new one; of a tuple: itself -/
def rTupOf (K : PySem.W.Frag) : List V → Hp → VK → Prop := fun xs H Q => ∃ p ys, xs = [.ref p] ∧ ((SqL K H p ys ∧ ∀ l o, o.dict = none → H l = none → Q (.ref l) (upd H l (.frz o (.tup ys)))) ∨ (SqT K H p ys ∧ Q (.ref p) H))
theorem ed_tupleL {ds : List PyData} (h : Ed c ρ te (.list ds) ρ1) : Ed c ρ (tCB (rTupOf c.K) (tCons te tNil)) (.tuple ds) ρ1 := fun T σ H W Q q =>
  h T σ H W _ fun v H1 W1 => by
    obtain ⟨a, xs, rfl, hs, h2⟩ := dp_lst W1.dp
    exact ⟨a, xs, rfl, .inl ⟨ex_l (hide_ex _ _) hs, fun p o z hp => q _ _ (tup_new W1.pop h2 z hp)⟩⟩
theorem ed_tupleT {ds : List PyData} (h : Ed c ρ te (.tuple ds) ρ1) : Ed c ρ (tCB (rTupOf c.K) (tCons te tNil)) (.tuple ds) ρ1 := fun T σ H W Q q =>
  h T σ H W _ fun v H1 W1 => by
    obtain ⟨a, xs, rfl, hs, h2⟩ := dp_tup W1.dp
    exact ⟨a, xs, rfl, .inr ⟨(ex_p (hide_ex _ _) hs).sq, q _ _ W1⟩⟩
end
end Nz

namespace Nz
open PySem PySem.Spec PyProof.Rows L2 RZ

/-! ### what is walked -/
/-- an item that comes: data; a pair that was just made, of data (to be unpacked at once) -/
inductive Itm where
  | hard (d : PyData)
  | soft (ds : List PyData)
def YOk (c : Cz) (T : Tm) (H : Hp) (σ : L2.St) (ρ : List Sl) (x : V) : Itm → Prop
  | .hard d => Wd c ((x, d) :: T) H σ ρ
  | .soft ds => ∃ a xs, x = .ref a ∧ SqT c.K H a xs ∧ xs.length = ds.length ∧ Wd c (xs.zip ds ++ T) H σ ρ
def Walks (K : PySem.W.Frag) (J : It) (T1 : Tm) (ds : List Itm) : Prop := ∀ (c : Cz) (T : Tm) (σ : L2.St) (H : Hp) (ρ : List Sl), c.K = K → Wd c (T1 ++ T) H σ ρ →
  (∀ i, i < ds.length → J.go i H ∧ ∀ x H', J.yld i H x H' → ∃ d, ds[i]? = some d ∧ YOk c (T1 ++ T) H' σ ρ x d) ∧ ∀ i, ds.length ≤ i → J.stop i H
def Ei (c : Cz) (ρ : List Sl) (wi : TI) (ds : List Itm) (ρ' : List Sl) : Prop := ∀ (T : Tm) (σ : L2.St) (H : Hp), Wd c T H σ ρ → ∀ R : It → Hp → Prop, (∀ J H' T1, Wd c (T1 ++ T) H' σ ρ' → Walks c.K J T1 ds → R J H') → wi σ H R
/-- a target takes an item; ws: the slots that it may store -/
def Eg (c : Cz) (g : TG) (d : Itm) (ρ ρ' : List Sl) (ws : List Nat) : Prop := ∀ (T : Tm) (σ : L2.St) (H : Hp) (v : V), YOk c T H σ ρ v d → ∀ Q : L2.St → Hp → Prop, (∀ σ' H', Wd c T H' σ' ρ' → L2.wipe σ' ws = L2.wipe σ ws → Q σ' H') → g v σ H Q

section
variable {c : Cz} {ρ ρ1 ρ2 ρ3 : List Sl} {ta tb te tx : TE} {t u : TT} {d d1 d2 d3 : PyData} {T : Tm} {H H' : Hp} {σ : L2.St}
abbrev hards (ds : List PyData) : List Itm := ds.map .hard
theorem hards_get {ds : List PyData} {i : Nat} (h : i < ds.length) : (hards ds)[i]? = some (.hard ds[i]) := by rw [List.getElem?_map, List.getElem?_eq_getElem h]; rfl
theorem ei_list {ds : List PyData} (h : Ed c ρ te (.list ds) ρ1) : Ei c ρ (iList c.K te) (hards ds) ρ1 := fun T σ H W R q => h T σ H W _ fun v H1 W1 => by
  obtain ⟨a, xs, rfl, hs, h2⟩ := dp_lst W1.dp
  refine ⟨a, rfl, ⟨xs, ex_l (hide_ex _ _) hs⟩, q _ H1 [(.ref a, .list ds)] W1 ?_⟩
  rintro c' T' σ' H' ρ' hK W'
  obtain ⟨b, ys, e, hs', h2'⟩ := dp_lst W'.dp
  cases e
  have hs2 : SqL c.K H' a ys := hK ▸ ex_l (hide_ex _ _) hs'
  have hl := dpa_length h2'
  rw [List.length_map]
  refine ⟨fun i hi => ?_, fun i hi => ⟨ys, hs2, by omega⟩⟩
  obtain ⟨x, hx, dx⟩ := dpa_get h2' (List.getElem?_eq_getElem hi)
  refine ⟨⟨ys, x, hs2, hx⟩, fun y H2 hy => ?_⟩
  obtain ⟨rfl, hy⟩ := hy
  have := (hy ys hs2).symm.trans hx
  cases this
  exact ⟨_, hards_get hi, W'.push dx⟩
theorem ei_tup {ds : List PyData} (h : Ed c ρ te (.tuple ds) ρ1) : Ei c ρ (iTup c.K te) (hards ds) ρ1 := fun T σ H W R q => h T σ H W _ fun v H1 W1 => by
  obtain ⟨a, xs, rfl, hs, h2⟩ := dp_tup W1.dp
  refine ⟨a, rfl, ⟨xs, (ex_p (hide_ex _ _) hs).sq⟩, q _ H1 [(.ref a, .tuple ds)] W1 ?_⟩
  rintro c' T' σ' H' ρ' hK W'
  obtain ⟨b, ys, e, hs', h2'⟩ := dp_tup W'.dp
  cases e
  have hs2 : SqT c.K H' a ys := hK ▸ (ex_p (hide_ex _ _) hs').sq
  have hl := dpa_length h2'
  rw [List.length_map]
  refine ⟨fun i hi => ?_, fun i hi => ⟨ys, hs2, by omega⟩⟩
  obtain ⟨x, hx, dx⟩ := dpa_get h2' (List.getElem?_eq_getElem hi)
  refine ⟨⟨ys, x, hs2, hx⟩, fun y H2 hy => ?_⟩
  obtain ⟨rfl, hy⟩ := hy
  have := (hy ys hs2).symm.trans hx
  cases this
  exact ⟨_, hards_get hi, W'.push dx⟩
/-- lo, lo + 1, .. -/
def rngD (lo : Int) (n : Nat) : List PyData := (List.range n).map fun (i : Nat) => PyData.int (lo + (i : Int))
theorem rngD_len (lo : Int) (n : Nat) : (rngD lo n).length = n := by unfold rngD; rw [List.length_map, List.length_range]
theorem rngD_get {lo : Int} {n i : Nat} (h : i < n) : (rngD lo n)[i]? = some (.int (lo + (i : Int))) := by
  unfold rngD; rw [List.getElem?_map, List.getElem?_range h]; rfl
theorem walks_rng (K : PySem.W.Frag) (lo : Int) (n : Nat) : Walks K (Itr lo n) [] (hards (rngD lo n)) := fun c T σ H ρ hK W => by
  rw [List.length_map, rngD_len]
  refine ⟨fun i hi => ⟨hi, fun x H' hy => ?_⟩, fun i hi => hi⟩
  obtain ⟨rfl, rfl⟩ := hy
  exact ⟨.hard (.int (lo + (i : Int))), by rw [List.getElem?_map, rngD_get hi]; rfl, W.push (.int _)⟩
theorem ei_rng1 {n : Int} (h : Ed c ρ te (.int n) ρ1) (hn : -4000000000 ≤ n ∧ n ≤ 4000000000) : Ei c ρ (iRng1 (tCons te tNil)) (hards (rngD 0 n.toNat)) ρ1 := fun T σ H W R q => h T σ H W _ fun v H1 W1 =>
  ⟨n, by rw [dp_int W1.dp], by omega, by omega, q _ H1 [] W1.pop (walks_rng _ _ _)⟩
theorem ei_rng2 {lo n : Int} (h : Ed c ρ te (.int lo) ρ1) (h2 : Ed c ρ1 tb (.int n) ρ2) (hn : (-4000000000 ≤ lo ∧ lo ≤ 4000000000) ∧ -4000000000 ≤ n ∧ n ≤ 4000000000) : Ei c ρ (iRng2 (tCons te (tCons tb tNil))) (hards (rngD lo (n - lo).toNat)) ρ2 := fun T σ H W R q => h T σ H W _ fun v H1 W1 => h2 _ σ H1 W1 _ fun w H2 W2 =>
  ⟨lo, n, by rw [dp_int W2.pop.dp, dp_int W2.dp], ⟨by omega, by omega, by omega, by omega⟩, q _ H2 [] W2.pop.pop (walks_rng _ _ _)⟩
/-- pairs of place and item -/
def enumD (ds : List PyData) : List Itm := (ds.zipIdx).map fun p => .soft [.int (p.2 : Int), p.1]
theorem enumD_len (ds : List PyData) : (enumD ds).length = ds.length := by unfold enumD; rw [List.length_map, List.length_zipIdx]
theorem enumD_get {ds : List PyData} {i : Nat} {d : PyData} (h : ds[i]? = some d) : (enumD ds)[i]? = some (.soft [.int (i : Int), d]) := by
  unfold enumD; rw [List.getElem?_map, List.getElem?_zipIdx, h]; simp
theorem ei_enum {ds : List PyData} (h : Ed c ρ te (.list ds) ρ1) : Ei c ρ (iEnum c.K (tCons te tNil)) (enumD ds) ρ1 := fun T σ H W R q => h T σ H W _ fun v H1 W1 => by
  obtain ⟨a, xs, rfl, hs, h2⟩ := dp_lst W1.dp
  refine ⟨a, xs, rfl, ex_l (hide_ex _ _) hs, q _ H1 [(.ref a, .list ds)] W1 ?_⟩
  rintro c' T' σ' H' ρ' hK W'
  obtain ⟨b, ys, e, hs', h2'⟩ := dp_lst W'.dp
  cases e
  have hs2 : SqL c.K H' a ys := hK ▸ ex_l (hide_ex _ _) hs'
  have hl := dpa_length h2'
  rw [enumD_len]
  refine ⟨fun i hi => ?_, fun i hi => ⟨ys, hs2, by omega⟩⟩
  obtain ⟨x, hx, dx⟩ := dpa_get h2' (List.getElem?_eq_getElem hi)
  refine ⟨⟨ys, x, hs2, hx⟩, fun y H2 hy => ?_⟩
  obtain ⟨p, z, rfl, hp, rfl, hy⟩ := hy
  have ez := (hy ys hs2).symm.trans hx
  rw [Option.some.inj ez]
  have W2 := W'.grow (Ex.new (o := .tup [.int (i : Nat), x]) hp)
  have e2 : Ex (hide (hid c' ρ') H') (hide (hid c' ρ') (upd H' p (.tup [.int (i : Nat), x]))) := hide_mono fun a o n h => ⟨n, Ex.new hp a o h⟩
  exact ⟨_, enumD_get (List.getElem?_eq_getElem hi), p, [.int (i : Nat), x], rfl, .inl (.inl upd_same), rfl, (W2.push (dpm e2 dx)).push (.int _)⟩
def zipD (ds es : List PyData) : List Itm := List.zipWith (fun d e => .soft [d, e]) ds es
theorem zipD_len (ds es : List PyData) : (zipD ds es).length = min ds.length es.length := by unfold zipD; rw [List.length_zipWith]
theorem zipD_get {ds es : List PyData} {i : Nat} {d e : PyData} (h : ds[i]? = some d) (h2 : es[i]? = some e) : (zipD ds es)[i]? = some (.soft [d, e]) := by
  unfold zipD; rw [List.getElem?_zipWith, h, h2]
theorem walks_zip {K : PySem.W.Frag} {a b : Addr} {ds es : List PyData} : Walks K (Itz K a b) [(.ref b, .list es), (.ref a, .list ds)] (zipD ds es) := fun c' T' σ' H' ρ' hK W' => by
  obtain ⟨b', zs, e, hz, h3⟩ := dp_lst W'.dp
  cases e
  obtain ⟨a', ys, e, hs', h2'⟩ := dp_lst W'.pop.dp
  cases e
  have hs2 : SqL K H' a ys := hK ▸ ex_l (hide_ex _ _) hs'
  have hz2 : SqL K H' b zs := hK ▸ ex_l (hide_ex _ _) hz
  have hl := dpa_length h2'
  have hl3 := dpa_length h3
  rw [zipD_len]
  refine ⟨fun i hi => ?_, fun i hi => ⟨ys, zs, hs2, hz2, by omega⟩⟩
  obtain ⟨x, hx, dx⟩ := dpa_get h2' (List.getElem?_eq_getElem (show i < ds.length by omega))
  obtain ⟨y, hy, dy⟩ := dpa_get h3 (List.getElem?_eq_getElem (show i < es.length by omega))
  refine ⟨⟨ys, zs, x, y, hs2, hz2, hx, hy⟩, fun v H2 hv => ?_⟩
  obtain ⟨p, x', y', rfl, hp, rfl, q1, q2⟩ := hv
  have e1 := (q1 ys hs2).symm.trans hx
  have e2' := (q2 zs hz2).symm.trans hy
  rw [Option.some.inj e1, Option.some.inj e2']
  have W2 := W'.grow (Ex.new (o := .tup [x, y]) hp)
  have e2 : Ex (hide (hid c' ρ') H') (hide (hid c' ρ') (upd H' p (.tup [x, y]))) := hide_mono fun a o n h => ⟨n, Ex.new hp a o h⟩
  exact ⟨_, zipD_get (List.getElem?_eq_getElem (show i < ds.length by omega)) (List.getElem?_eq_getElem (show i < es.length by omega)), p, [x, y], rfl, .inl (.inl upd_same), rfl, (W2.push (dpm e2 dy)).push (dpm e2 dx)⟩
theorem walks_zipT {K : PySem.W.Frag} {a b : Addr} {ds es : List PyData} : Walks K (ItzT K a b) [(.ref b, .tuple es), (.ref a, .tuple ds)] (zipD ds es) := fun c' T' σ' H' ρ' hK W' => by
  obtain ⟨b', zs, e, hz, h3⟩ := dp_tup W'.dp
  cases e
  obtain ⟨a', ys, e, hs', h2'⟩ := dp_tup W'.pop.dp
  cases e
  have hs2 : SqT K H' a ys := hK ▸ (ex_p (hide_ex _ _) hs').sq
  have hz2 : SqT K H' b zs := hK ▸ (ex_p (hide_ex _ _) hz).sq
  have hl := dpa_length h2'
  have hl3 := dpa_length h3
  rw [zipD_len]
  refine ⟨fun i hi => ?_, fun i hi => ⟨ys, zs, hs2, hz2, by omega⟩⟩
  obtain ⟨x, hx, dx⟩ := dpa_get h2' (List.getElem?_eq_getElem (show i < ds.length by omega))
  obtain ⟨y, hy, dy⟩ := dpa_get h3 (List.getElem?_eq_getElem (show i < es.length by omega))
  refine ⟨⟨ys, zs, x, y, hs2, hz2, hx, hy⟩, fun v H2 hv => ?_⟩
  obtain ⟨p, x', y', rfl, hp, rfl, q1, q2⟩ := hv
  have e1 := (q1 ys hs2).symm.trans hx
  have e2' := (q2 zs hz2).symm.trans hy
  rw [Option.some.inj e1, Option.some.inj e2']
  have W2 := W'.grow (Ex.new (o := .tup [x, y]) hp)
  have e2 : Ex (hide (hid c' ρ') H') (hide (hid c' ρ') (upd H' p (.tup [x, y]))) := hide_mono fun a o n h => ⟨n, Ex.new hp a o h⟩
  exact ⟨_, zipD_get (List.getElem?_eq_getElem (show i < ds.length by omega)) (List.getElem?_eq_getElem (show i < es.length by omega)), p, [x, y], rfl, .inl (.inl upd_same), rfl, (W2.push (dpm e2 dy)).push (dpm e2 dx)⟩
theorem ei_zip {ds es : List PyData} (h : Ed c ρ te (.list ds) ρ1) (h2 : Ed c ρ1 tb (.list es) ρ2) : Ei c ρ (iZipA c.K (tCons te (tCons tb tNil))) (zipD ds es) ρ2 := fun T σ H W R q => h T σ H W _ fun v H1 W1 => h2 _ σ H1 W1 _ fun w H2 W2 => by
  obtain ⟨a, xs, rfl, hs, ha⟩ := dp_lst W2.pop.dp
  obtain ⟨b, ys, rfl, hs2, hb⟩ := dp_lst W2.dp
  exact ⟨a, b, xs, ys, rfl, .inl ⟨ex_l (hide_ex _ _) hs, ex_l (hide_ex _ _) hs2, q _ H2 [(.ref b, .list es), (.ref a, .list ds)] W2 walks_zip⟩⟩
theorem ei_zipT {ds es : List PyData} (h : Ed c ρ te (.tuple ds) ρ1) (h2 : Ed c ρ1 tb (.tuple es) ρ2) : Ei c ρ (iZipA c.K (tCons te (tCons tb tNil))) (zipD ds es) ρ2 := fun T σ H W R q => h T σ H W _ fun v H1 W1 => h2 _ σ H1 W1 _ fun w H2 W2 => by
  obtain ⟨a, xs, rfl, hs, ha⟩ := dp_tup W2.pop.dp
  obtain ⟨b, ys, rfl, hs2, hb⟩ := dp_tup W2.dp
  exact ⟨a, b, xs, ys, rfl,   .inr ⟨(ex_p (hide_ex _ _) hs).sq, (ex_p (hide_ex _ _) hs2).sq, q _ H2 [(.ref b, .tuple es), (.ref a, .tuple ds)] W2 walks_zipT⟩⟩
/-! ### targets -/
theorem wipe_set {σ : L2.St} {x : Option V} {j : Nat} : ∀ {ws : List Nat}, j ∈ ws → L2.wipe (σ.set j x) ws = L2.wipe σ ws
  | w :: ws, h => by
    show (L2.wipe (σ.set j x) ws).set w none = (L2.wipe σ ws).set w none
    by_cases m : j ∈ ws
    · rw [wipe_set m]
    · have e : j = w := by
        rcases List.mem_cons.mp h with h | h
        · exact h
        · exact absurd h m
      subst e
      apply List.ext_getElem?
      intro k
      by_cases q : j = k
      · subst q
        rw [List.getElem?_set, List.getElem?_set, L2.wipe_length, L2.wipe_length, List.length_set, if_pos rfl, if_pos rfl]
      · rw [List.getElem?_set_ne q, List.getElem?_set_ne q]
        by_cases m2 : k ∈ ws
        · have w0 : ∀ {τ : L2.St} {ws : List Nat}, k ∈ ws → (L2.wipe τ ws)[k]? = (τ.map fun _ => (none : Option V))[k]? := fun {τ ws} hm => by
            induction ws with
            | nil => cases hm
            | cons y ys ih =>
              show ((L2.wipe τ ys).set y none)[k]? = _
              by_cases qq : y = k
              · subst qq
                rw [List.getElem?_set, L2.wipe_length, List.getElem?_map]
                simp
                by_cases hk : y < τ.length
                · simp [hk]
                · simp [hk]
              · rw [List.getElem?_set_ne qq]
                exact ih (by
                  rcases List.mem_cons.mp hm with hm | hm
                  · exact absurd hm.symm qq
                  · exact hm)
          rw [w0 m2, w0 m2, List.getElem?_map, List.getElem?_map, List.getElem?_set_ne q]
        · rw [wipe_get m2, wipe_get m2, List.getElem?_set_ne q]
theorem eg_name {j : Nat} {ws : List Nat} (h : j ∈ ws) : Eg c (gName j) (.hard d) ρ (ρ.set j (.da d)) ws := fun T σ H v W Q q => q _ H (Wd.setD (Wd.pop W) j (Wd.dp W)) (wipe_set h)
/-- several targets -/
def Egs (c : Cz) (g : TGs) (ds : List PyData) (ρ ρ' : List Sl) (ws : List Nat) : Prop := ∀ (T : Tm) (σ : L2.St) (H : Hp) (vs : List V), Wd c T H σ ρ → DzAll c.K (hide (hid c ρ) H) vs ds → ∀ Q : L2.St → Hp → Prop, (∀ σ' H', Wd c T H' σ' ρ' → L2.wipe σ' ws = L2.wipe σ ws → Q σ' H') → g vs σ H Q
theorem egs_nil {ws : List Nat} : Egs c gNil [] ρ ρ ws := fun T σ H vs W a Q q => by
  cases a
  exact ⟨rfl, q σ H W rfl⟩
/-- the values of the rest are kept as temporary data -/
theorem Wd.pushAll {vs : List V} {ds : List PyData} (W : Wd c T H σ ρ) (h : DzAll c.K (hide (hid c ρ) H) vs ds) : Wd c (vs.zip ds ++ T) H σ ρ := by
  induction ds generalizing vs with
  | nil => cases h; exact W
  | cons d ds ih =>
    cases h with
    | cons a b =>
      show Wd c ((_, d) :: (_ ++ T)) H σ ρ
      exact (ih b).push a
theorem Wd.allOf {ds : List PyData} : ∀ {vs : List V}, vs.length = ds.length → Wd c (vs.zip ds ++ T) H σ ρ → DzAll c.K (hide (hid c ρ) H) vs ds := by
  induction ds with
  | nil => intro vs h W; cases vs with
    | nil => exact .nil
    | cons _ _ => simp at h
  | cons d ds ih =>
    intro vs h W
    cases vs with
    | nil => simp at h
    | cons v vs =>
      exact .cons (W.tmp (v, d) (by simp)) (ih (by simpa using h) W.pop)
theorem egs_cons {g : TG} {gs : TGs} {ds : List PyData} {ws : List Nat} (h1 : Eg c g (.hard d) ρ ρ1 ws) (h2 : Egs c gs ds ρ1 ρ2 ws) : Egs c (gCons g gs) (d :: ds) ρ ρ2 ws := fun T σ H vs W a Q q => by
  cases a with
  | cons a1 a2 =>
    refine ⟨_, _, rfl, h1 _ σ H _ ((W.pushAll a2).push a1) _ fun σ1 H1 W1 e1 => ?_⟩
    have a3 := Wd.allOf (dpa_length a2) W1
    exact h2 T σ1 H1 _ (W1.tmps fun p hp => List.mem_append_right _ hp) a3 Q fun σ2 H2 W2 e2 => q σ2 H2 W2 (e2.trans e1)
theorem eg_tup {gs : TGs} {ds : List PyData} {n : Nat} {ws : List Nat} (h : Egs c gs ds ρ ρ1 ws) (hn : ds.length = n := by rfl) : Eg c (gTup c.K n gs) (.hard (.tuple ds)) ρ ρ1 ws := fun T σ H v W Q q => by
  obtain ⟨a, xs, rfl, hs, h2⟩ := dp_tup (Wd.dp W)
  exact ⟨a, xs, rfl, (ex_p (hide_ex _ _) hs).sq, by rw [dpa_length h2, hn], h T σ H xs (Wd.pop W) h2 Q q⟩
theorem eg_soft {gs : TGs} {ds : List PyData} {n : Nat} {ws : List Nat} (h : Egs c gs ds ρ ρ1 ws) (hn : ds.length = n := by rfl) : Eg c (gTup c.K n gs) (.soft ds) ρ ρ1 ws := fun T σ H v W Q q => by
  obtain ⟨a, xs, rfl, hs, hl, W⟩ := W
  exact ⟨a, xs, rfl, hs, by rw [hl, hn], h T σ H xs (W.tmps fun p hp => List.mem_append_right _ hp) (Wd.allOf hl W) Q q⟩
/-! ### list comprehensions -/
abbrev Cz.at (c : Cz) (S : List Addr) (B : Hp) : Cz := { c with S0 := S, B := B }
theorem Wd.pin {p : Addr} {u : HO} (W : Wd (c.hidden p) T H σ ρ) (h : H p = some u) (hB : c.B p = none) (hs : ∀ a ∈ c.M, a ∈ c.S0) (h0 : p ∉ c.S0) : Wd (c.at (p :: c.S0) (upd c.B p u)) T H σ ρ := by
  have hn := W.notin h0 hs
  refine ⟨W.len, fun a o n e => ?_, W.sub, W.dom, W.tmp, W.inj, W.ap, fun i s e => ?_⟩
  · by_cases q : a = p
    · rw [q] at e ⊢
      have e : upd c.B p u p = some o := e
      rw [upd_same] at e
      rw [h, e]
    · have e : upd c.B p u a = some o := e
      rw [upd_ne q] at e
      exact W.keep a o n e
  · have ok := W.ok i s e
    cases s with
    | mu l a o =>
      obtain ⟨x, y, z⟩ := ok
      refine ⟨x, ?_, z⟩
      cases l with
      | true =>
        rw [if_pos rfl] at y ⊢
        have na : a ≠ p := fun q => W.ap i a o e (by rw [q]; exact List.mem_cons_self ..)
        show upd c.B p u a = none
        rw [upd_ne na]; exact y
      | false => rw [if_neg (by decide)] at y ⊢; exact y
    | _ => exact ok
theorem Wd.unpin {p : Addr} {u : HO} (W : Wd (c.at (p :: c.S0) (upd c.B p u)) T H σ ρ) (hB : c.B p = none) (hM : p ∉ c.M) : H p = some u ∧ Wd (c.hidden p) T H σ ρ := by
  refine ⟨W.keep p u hM upd_same, W.len, fun a o n e => W.keep a o n ?_, W.sub, W.dom, W.tmp, W.inj, W.ap, fun i s e => ?_⟩
  · show upd c.B p u a = some o
    rw [upd_ne (fun q => by
      have e : c.B a = some o := e
      rw [q, hB] at e; cases e)]
    exact e
  · have ok := W.ok i s e
    cases s with
    | mu l a o =>
      obtain ⟨x, y, z⟩ := ok
      refine ⟨x, ?_, z⟩
      cases l with
      | true =>
        rw [if_pos rfl] at y ⊢
        have na : a ≠ p := fun q => W.ap i a o e (by rw [q]; exact List.mem_cons_self ..)
        have y : upd c.B p u a = none := y
        rw [upd_ne na] at y; exact y
      | false => rw [if_neg (by decide)] at y ⊢; exact y
    | _ => exact ok
/-- what is hidden changes -/
theorem Wd.updHid {p : Addr} {u : HO} (W : Wd (c.hidden p) T H σ ρ) (hB : c.B p = none) (hn : p ∉ hid c ρ) : Wd (c.hidden p) T (upd H p u) σ ρ := by
  have e2 : Ex (hide (hid (c.hidden p) ρ) H) (hide (hid (c.hidden p) ρ) (upd H p u)) := hide_mono fun b o n e => ⟨n, by
    rw [upd_ne (fun q => n (by rw [q]; exact List.mem_cons_self ..))]; exact e⟩
  refine ⟨W.len, fun a o n e => ?_, W.sub, fun a m => ?_, fun q hq => dpm e2 (W.tmp q hq), W.inj, W.ap, fun i s e => ?_⟩
  · rw [upd_ne (fun q => by
      have e : c.B a = some o := e
      rw [q, hB] at e; cases e)]
    exact W.keep a o n e
  · by_cases q : a = p
    · rw [q]; exact ⟨u, upd_same⟩
    · rw [upd_ne q]; exact W.dom a m
  · refine slOk_mono e2 (fun a ea => upd_ne fun q => hn ?_) (W.ok i s e)
    cases s with
    | mu l b o => cases ea; exact List.mem_append_right _ (mem_muts.mpr ⟨i, l, o, q ▸ e⟩)
    | _ => cases ea
theorem wipe_wipe {σ : L2.St} : ∀ {vs : List Nat}, L2.wipe (L2.wipe σ vs) vs = L2.wipe σ vs := fun {vs} => by
  apply List.ext_getElem?
  intro k
  by_cases m : k ∈ vs
  · have w0 : ∀ {τ : L2.St} {ws : List Nat}, k ∈ ws → (L2.wipe τ ws)[k]? = (τ.map fun _ => (none : Option V))[k]? := fun {τ ws} hm => by
      induction ws with
      | nil => cases hm
      | cons y ys ih =>
        show ((L2.wipe τ ys).set y none)[k]? = _
        by_cases qq : y = k
        · subst qq
          rw [List.getElem?_set, L2.wipe_length, List.getElem?_map]
          simp
          by_cases hk : y < τ.length
          · simp [hk]
          · simp [hk]
        · rw [List.getElem?_set_ne qq]
          exact ih (by
            rcases List.mem_cons.mp hm with hm | hm
            · exact absurd hm.symm qq
            · exact hm)
    rw [w0 m, w0 m, List.getElem?_map, List.getElem?_map]
    by_cases hk : k < σ.length
    · rw [List.getElem?_eq_getElem hk, List.getElem?_eq_getElem (by rw [L2.wipe_length]; exact hk)]
      rfl
    · have h1 : (L2.wipe σ vs)[k]? = none := List.getElem?_eq_none_iff.mpr (by rw [L2.wipe_length]; omega)
      have h2 : σ[k]? = none := List.getElem?_eq_none_iff.mpr (by omega)
      rw [h1, h2]
  · rw [wipe_get m]
/-- by the turn: what the frame holds, what the new list holds -/
theorem el_lc {wi : TI} {g : TG} {tt : TT} {vs : List Nat} {ds : List Itm} (h : Ei c ρ wi ds ρ1) (I : Nat → List Sl) (acc : Nat → List PyData) (hI : I 0 = ρ1) (hacc : acc 0 = []) (hsz : ds.length ≤ 100000)
    (hvs : ∀ i, i ≤ ds.length → ∀ j ∈ vs, (I i)[j]? = some .no)
    (turn : ∀ (S : List Addr) (B : Hp) (i : Nat) (d : Itm), ds[i]? = some d → ∃ (b : Bool) (ρa ρb : List Sl), Eg (c.at S B) g d (I i) ρa vs ∧ Et (c.at S B) ρa tt b ρb ∧
      (b = true → ∃ d' ρc, Ed (c.at S B) ρb te d' ρc ∧ acc (i + 1) = acc i ++ [d'] ∧ ∀ T H σ, Wd (c.at S B) T H σ ρc → Wd (c.at S B) T H (L2.wipe σ vs) (I (i + 1))) ∧
      (b = false → acc (i + 1) = acc i ∧ ∀ T H σ, Wd (c.at S B) T H σ ρb → Wd (c.at S B) T H (L2.wipe σ vs) (I (i + 1)))) : EdL c ρ (tLc wi g tt te vs) (acc ds.length) (I ds.length) := fun T σ H W Q q =>
  h T σ H W _ fun J H1 T1 W1 hw D hD => by
    have hB := W1.freshB hD
    have hsub := W1.sub
    have nS : D ∉ c.S0 := fun m => W1.fresh hD (List.mem_append_left _ m)
    have nM : D ∉ c.M := fun m => nS (hsub D m)
    obtain ⟨_, hDn, mo0, Wh⟩ := el_new W1 (.nil) hD
    have hvs0 := hvs 0 (Nat.zero_le _)
    rw [hI] at hvs0
    have eP : ∀ {i : Nat} {H2 : Hp}, Wd (c.hidden D) (T1 ++ T) H2 (L2.wipe σ vs) (I i) → D ∉ hid c (I i) := fun W2 => W2.notin nS hsub
    have accl : ∀ i, i ≤ ds.length → (acc i).length ≤ i := fun i => by
      induction i with
      | zero => intro _; rw [hacc]; exact Nat.le_refl _
      | succ i ih =>
        intro hi
        obtain ⟨b, _, _, _, _, g3, g4⟩ := turn [] (fun _ => none) i _ (List.getElem?_eq_getElem (show i < ds.length by omega))
        have := ih (by omega)
        cases b with
        | true =>
          obtain ⟨d', _, _, e, _⟩ := g3 rfl
          rw [e, List.length_append]; show _ + 1 ≤ _; omega
        | false => rw [(g4 rfl).1]; omega
    refine ⟨fun i m H2 => i + m = ds.length ∧ Wd (c.hidden D) (T1 ++ T) H2 (L2.wipe σ vs) (I i) ∧ MoOk c.K (D :: hid c (I i)) H2 D (.lst (acc i)), ⟨ds.length, by omega, by rw [hI]; exact Wh.wipe hvs0, by rw [hI, hacc]; exact mo0⟩, fun i m H2 ⟨hm, W2, mo⟩ => ?_⟩
    by_cases hi : i < ds.length
    · obtain ⟨xs, hxs, dxs⟩ := mo
      have lx := dpa_length dxs
      have la := accl i (by omega)
      have W2a : Wd (c.at (D :: c.S0) (upd c.B D (.lst xs))) (T1 ++ T) H2 (L2.wipe σ vs) (I i) := W2.pin hxs hB hsub nS
      have W2b : Wd (c.at (D :: c.S0) (upd c.B D (.lst xs))) (xs.zip (acc i) ++ (T1 ++ T)) H2 (L2.wipe σ vs) (I i) := W2a.pushAll dxs
      have W2c : Wd (c.at (D :: c.S0) (upd c.B D (.lst xs))) (T1 ++ (xs.zip (acc i) ++ T)) H2 (L2.wipe σ vs) (I i) := W2b.tmps fun p hp => by
        simp only [List.mem_append] at hp ⊢
        rcases hp with hp | hp | hp
        · exact .inr (.inl hp)
        · exact .inl hp
        · exact .inr (.inr hp)
      have hwk := hw (c.at (D :: c.S0) (upd c.B D (.lst xs))) _ _ _ _ rfl W2c
      refine .inr ⟨(hwk.1 i hi).1, fun H3 => Wd (c.hidden D) (T1 ++ T) H3 (L2.wipe σ vs) (I (i + 1)) ∧ MoOk c.K (D :: hid c (I (i + 1))) H3 D (.lst (acc (i + 1))), fun H3 h3 => ⟨m - 1, by omega, by omega, h3.1, h3.2⟩, fun x H3 hy => ?_⟩
      obtain ⟨d, hd, W3⟩ := (hwk.1 i hi).2 x H3 hy
      obtain ⟨b, ρa, ρb, g1, g2, g3, g4⟩ := turn (D :: c.S0) (upd c.B D (.lst xs)) i d hd
      refine g1 _ _ _ _ W3 _ fun σ2 H4 W4 ew => ⟨by rw [ew, wipe_wipe], g2 _ σ2 H4 W4 _ fun H5 W5 => ?_⟩
      rw [wipe_wipe] at ew
      cases b with
      | true =>
        rw [if_pos rfl]
        obtain ⟨d', ρc, g5, ea, wk⟩ := g3 rfl
        refine g5 _ σ2 H5 W5 _ fun y H6 W6 => ?_
        have W7 := wk _ _ _ W6
        rw [ew] at W7
        obtain ⟨hx6, W8⟩ := W7.unpin hB nM
        have hn8 := W8.notin nS hsub
        refine ⟨xs, hx6, Nat.lt_of_lt_of_le (show xs.length < 100000 by omega) (by decide), ?_, ?_⟩
        · refine (W8.updHid hB hn8).tmps fun p hp => List.mem_cons_of_mem _ ?_
          simp only [List.mem_append] at hp ⊢
          rcases hp with hp | hp
          · exact .inl hp
          · exact .inr (.inr hp)
        · refine ⟨xs ++ [y], upd_same, ?_⟩
          rw [ea]
          have W9 := W8.updHid (u := .lst (xs ++ [y])) hB hn8
          have a1 : DzAll c.K (hide (hid (c.hidden D) (I (i + 1))) (upd H6 D (.lst (xs ++ [y])))) xs (acc i) := Wd.allOf (T := (y, d') :: (T1 ++ T)) lx (W9.tmps fun p hp => by
            simp only [List.mem_append, List.mem_cons] at hp ⊢
            rcases hp with hp | hp | hp | hp
            · exact .inr (.inr (.inl hp))
            · exact .inl hp
            · exact .inr (.inl hp)
            · exact .inr (.inr (.inr hp)))
          exact dpa_append a1 (.cons (W9.tmp (y, d') (List.mem_cons_self ..)) .nil)
      | false =>
        rw [if_neg (by decide)]
        obtain ⟨ea, wk⟩ := g4 rfl
        have W7 := wk _ _ _ W5
        rw [ew] at W7
        obtain ⟨hx6, W8⟩ := W7.unpin hB nM
        refine ⟨W8.tmps fun p hp => ?_, xs, hx6, ?_⟩
        · simp only [List.mem_append] at hp ⊢
          rcases hp with hp | hp
          · exact .inl hp
          · exact .inr (.inr hp)
        · rw [ea]
          exact Wd.allOf (T := T1 ++ T) lx (W8.tmps fun p hp => by
            simp only [List.mem_append, List.mem_cons] at hp ⊢
            rcases hp with hp | hp | hp
            · exact .inr (.inl hp)
            · exact .inl hp
            · exact .inr (.inr hp))
    · have ei : i = ds.length := by omega
      subst ei
      refine .inl ⟨(hw (c.hidden D) T (L2.wipe σ vs) H2 (I ds.length) rfl W2).2 _ (Nat.le_refl _), ?_⟩
      have W4 : Wd (c.hidden D) T H2 (L2.wipe σ vs) (I ds.length) := W2.tmps fun p hp => List.mem_append_right _ hp
      exact q D H2 hB (eP W2) mo (W4.unwipe (hvs _ (Nat.le_refl _)))
end
end Nz

namespace Nz
open PySem PySem.Spec PyProof.Rows L2 RZ

def wipeS (ρ : List Sl) : List Nat → List Sl
  | [] => ρ
  | v :: vs => (wipeS ρ vs).set v .no
theorem Wd.wipeS {c : Cz} {T : Tm} {H : Hp} {σ : L2.St} {ρ : List Sl} (W : Wd c T H σ ρ) : ∀ (vs : List Nat), Wd c T H (L2.wipe σ vs) (Nz.wipeS ρ vs)
  | [] => W
  | v :: vs => (Wd.wipeS W vs).setN v none .no rfl trivial
section
variable {c : Cz} {ρ ρ1 ρ2 ρ3 : List Sl} {ta tb te tx : TE} {t u : TT} {d d1 d2 d3 : PyData} {T : Tm} {H H' : Hp} {σ : L2.St}
/-- items xs, those with p, made into eb -/
theorem el_lcP {α : Type} {wi : TI} {g : TG} {tt : TT} {vs : List Nat} (xs : List α) (ea : α → Itm) (p : α → Bool) (eb : α → PyData) (h : Ei c ρ wi (xs.map ea) ρ1) (hsz : xs.length ≤ 100000) (hvs : ∀ j ∈ vs, ρ1[j]? = some .no)
    (turn : ∀ (S : List Addr) (B : Hp) (x : α), x ∈ xs → ∃ ρa, Nz.wipeS ρa vs = ρ1 ∧ Eg (c.at S B) g (ea x) ρ1 ρa vs ∧ Et (c.at S B) ρa tt (p x) ρa ∧ (p x = true → Ed (c.at S B) ρa te (eb x) ρa)) :
    EdL c ρ (tLc wi g tt te vs) ((xs.filter p).map eb) ρ1 := by
  have key := el_lc (c := c) (tt := tt) (te := te) (vs := vs) h (fun _ => ρ1) (fun i => ((xs.take i).filter p).map eb) rfl (by simp) (by rw [List.length_map]; exact hsz) (fun _ _ => hvs) (fun S B i d hd => by
    rw [List.getElem?_map] at hd
    cases hx : xs[i]? with
    | none => rw [hx] at hd; cases hd
    | some x =>
      rw [hx] at hd
      have hd : ea x = d := Option.some.inj hd
      subst hd
      obtain ⟨ρa, hw, g1, g2, g3⟩ := turn S B x (List.mem_of_getElem? hx)
      refine ⟨p x, ρa, ρa, g1, g2, fun hp => ⟨eb x, ρa, g3 hp, ?_, fun T H σ W => hw ▸ W.wipeS vs⟩, fun hp => ⟨?_, fun T H σ W => hw ▸ W.wipeS vs⟩⟩
      · rw [List.take_add_one, hx]
        simp [hp]
      · rw [List.take_add_one, hx]
        simp [hp])
  have e : (List.map eb (List.filter p (List.take (List.map ea xs).length xs))) = (xs.filter p).map eb := by
    rw [List.length_map, List.take_length]
  rw [e] at key
  exact key
/-- all items -/
theorem el_lcA {α : Type} {wi : TI} {g : TG} {vs : List Nat} (xs : List α) (ea : α → Itm) (eb : α → PyData) (h : Ei c ρ wi (xs.map ea) ρ1) (hsz : xs.length ≤ 100000) (hvs : ∀ j ∈ vs, ρ1[j]? = some .no)
    (turn : ∀ (S : List Addr) (B : Hp) (x : α), x ∈ xs → ∃ ρa, Nz.wipeS ρa vs = ρ1 ∧ Eg (c.at S B) g (ea x) ρ1 ρa vs ∧ Ed (c.at S B) ρa te (eb x) ρa) :
    EdL c ρ (tLc wi g tYes te vs) (xs.map eb) ρ1 := by
  have key := el_lcP (c := c) (tt := tYes) (te := te) (vs := vs) xs ea (fun _ => true) eb h hsz hvs (fun S B x hx => by
    obtain ⟨ρa, hw, g1, g2⟩ := turn S B x hx
    exact ⟨ρa, hw, g1, fun T σ H W Q q => q H W, fun _ => g2⟩)
  rw [List.filter_eq_self.mpr (fun _ _ => rfl)] at key
  exact key
theorem ei_rng {n : Int} (h : Ed c ρ te (.int n) ρ1) (hn : -4000000000 ≤ n ∧ n ≤ 4000000000) : Ei c ρ (iRng1 (tCons te tNil)) ((List.range n.toNat).map fun (i : Nat) => Itm.hard (PyData.int (i : Int))) ρ1 := by
  have := ei_rng1 h hn
  unfold hards rngD at this
  simp only [Int.zero_add, List.map_map] at this
  exact this

/-! ### statements -/
def Sk (c : Cz) (T : Tm) (ρ : List Sl) (nx : L2.St → Hp → Prop) : Prop := ∀ σ H, Wd c T H σ ρ → nx σ H
abbrev Ss (c : Cz) (T : Tm) (ρ : List Sl) (ts : TS) (D : Ends) : Prop := Sk c T ρ (ts D)
theorem Sk.more {T' : Tm} {nx : L2.St → Hp → Prop} (h : Sk c T ρ nx) (hT : ∀ p ∈ T, p ∈ T') : Sk c T' ρ nx := fun σ H W => h σ H (W.tmps hT)
def Le (ρ ρ' : List Sl) : Prop := ρ.length = ρ'.length ∧ ∀ (i : Nat) (s s' : Sl), ρ[i]? = some s → ρ'[i]? = some s' → slLe s s'
theorem slLe_refl (s : Sl) : slLe s s := by cases s <;> simp [slLe, MoLe]
theorem Le.refl (ρ : List Sl) : Le ρ ρ := ⟨rfl, fun i s s' h h' => by rw [h] at h'; cases h'; exact slLe_refl s⟩
theorem le_nil : Le [] [] := Le.refl _
theorem le_cons {s s' : Sl} {ρ ρ' : List Sl} (h : slLe s s') (t : Le ρ ρ') : Le (s :: ρ) (s' :: ρ') := ⟨by rw [List.length_cons, List.length_cons, t.1], fun i a b h1 h2 => by
  cases i with
  | zero => cases h1; cases h2; exact h
  | succ i => exact t.2 i a b (by simpa using h1) (by simpa using h2)⟩
theorem le_same {s : Sl} {ρ ρ' : List Sl} (t : Le ρ ρ') : Le (s :: ρ) (s :: ρ') := le_cons (slLe_refl s) t
theorem le_no {s : Sl} {ρ ρ' : List Sl} (t : Le ρ ρ') : Le (s :: ρ) (.no :: ρ') := le_cons (by cases s <;> exact trivial) t
theorem le_da {ρ ρ' : List Sl} (e : d = d1) (t : Le ρ ρ') : Le (.da d :: ρ) (.da d1 :: ρ') := le_cons e t
theorem le_frz {ρ ρ' : List Sl} {a : Addr} {ds : List PyData} (t : Le ρ ρ') : Le (.mu true a (.lst ds) :: ρ) (.da (.list ds) :: ρ') := le_cons ⟨rfl, rfl⟩ t
theorem le_mu {ρ ρ' : List Sl} {l : Bool} {a : Addr} {o o' : MO} (e : o = o') (t : Le ρ ρ') : Le (.mu l a o :: ρ) (.mu l a o' :: ρ') := le_cons ⟨rfl, rfl, .inl e⟩ t
theorem le_any {ρ ρ' : List Sl} {l : Bool} {a : Addr} {ds : List PyData} {P : List PyData → Prop} (p : P ds) (t : Le ρ ρ') : Le (.mu l a (.lst ds) :: ρ) (.mu l a (.any P) :: ρ') := le_cons ⟨rfl, rfl, .inr ⟨ds, P, rfl, rfl, p⟩⟩ t
theorem Wd.le (W : Wd c T H σ ρ) (h : Le ρ ρ') : Wd c T H σ ρ' := W.weak h.1 h.2
theorem s_le {nx : L2.St → Hp → Prop} (h : Le ρ ρ1) (k : Sk c T ρ1 nx) : Sk c T ρ nx := fun σ H W => k σ H (W.le h)
theorem s_end (h : Le ρ ρ1) : Sk c T ρ (fun σ H => Wd c T H σ ρ1) := fun σ H W => W.le h
variable {D : Ends} {ts tu : TS} {g : TG} {nx bk ct : L2.St → Hp → Prop} {rt : VK}
theorem s_seq (h : Ss c T ρ ts { D with nx := tu D }) : Ss c T ρ (tSeq ts tu) D := h
theorem s_next (k : Sk c T ρ nx) : Ss c T ρ tNext ⟨nx, rt, bk, ct⟩ := k
theorem s_asgG {ws : List Nat} (h : Ed c ρ te d ρ1) (hg : Eg c g (.hard d) ρ1 ρ2 ws) (k : Sk c T ρ2 nx) : Ss c T ρ (tAsg te g) ⟨nx, rt, bk, ct⟩ := fun σ H W => h T σ H W _ fun v H1 W1 => hg T σ H1 v W1 _ fun σ2 H2 W2 _ => k σ2 H2 W2
theorem s_asg {i : Nat} (h : Ed c ρ te d ρ1) (k : Sk c T (ρ1.set i (.da d)) nx) : Ss c T ρ (tAsg te (gName i)) ⟨nx, rt, bk, ct⟩ := s_asgG (ws := [i]) h (eg_name (List.mem_cons_self ..)) k
/-- a new list that will change -/
theorem s_asgM {i : Nat} {ds : List PyData} (h : EdL c ρ te ds ρ1) (k : ∀ p, Sk c T (ρ1.set i (.mu true p (.lst ds))) nx) : Ss c T ρ (tAsg te (gName i)) ⟨nx, rt, bk, ct⟩ := fun σ H W =>
  h T σ H W _ fun p H1 hB hn mo W1 => k p _ _ (W1.setM W.sub i (by rw [if_pos rfl]; exact hB) hn mo)
/-- a, b = x, y -/
theorem s_par {i j : Nat} {x y : PyData} {tp : TA} (h : Ea c ρ tp [.dat x, .dat y] ρ1) (k : Sk c T ((ρ1.set i (.da x)).set j (.da y)) nx) : Ss c T ρ (tPar i j tp) ⟨nx, rt, bk, ct⟩ := fun σ H W => h T σ H W _ fun vs H1 a W1 => by
  obtain ⟨v, w, rfl, h1, h2⟩ := aa2 a
  refine ⟨v, w, rfl, ?_⟩
  have W2 := ((W1.push h2).push h1)
  have W3 := (W2.pop.push h1).setD i h1
  have W4 := W3.pop.setD j (W3.tmp (w, y) (by simp))
  exact k _ _ W4.pop
theorem s_aug {i : Nat} {f : Int → Int → Int} {a b : Int} (hx : ρ[i]? = some (.da (.int a))) (h : Ed c ρ te (.int b) ρ) (k : Sk c T (ρ.set i (.da (.int (f a b)))) nx) : Ss c T ρ (tAug i te (ipI f)) ⟨nx, rt, bk, ct⟩ := fun σ H W => by
  obtain ⟨v, e, dp⟩ := W.ok i _ hx
  refine ⟨v, e, h T σ H W _ fun w H1 W1 => ⟨a, b, dp_int dp, dp_int W1.dp, ?_⟩⟩
  exact k _ _ (W1.pop.setD i (.int _))
theorem s_drop (h : Ed c ρ te d ρ1) (k : Sk c T ρ1 nx) : Ss c T ρ (tDrop te) ⟨nx, rt, bk, ct⟩ := fun σ H W => h T σ H W _ fun v H1 W1 => k σ H1 W1.pop
theorem s_append {i : Nat} {l : Bool} {a : Addr} {ds : List PyData} (h : Ed c ρ te d ρ1) (h0 : ∃ l ds, ρ[i]? = some (.mu l a (.lst ds))) (ha : ρ1[i]? = some (.mu l a (.lst ds))) (hz : ds.length < 100000) (k : Sk c T (ρ1.set i (.mu l a (.lst (ds ++ [d])))) nx) :
    Ss c T ρ (tDrop (tBM c.K "list" rAppend (tVar i) (tCons te tNil))) ⟨nx, rt, bk, ct⟩ := fun σ H W => by
  obtain ⟨l0, o0, h0⟩ := h0
  obtain ⟨e0, e2, e3⟩ := W.ok i _ h0
  obtain ⟨ys, e7, _⟩ := e3
  have ty : tyV c.K "list" (.ref a) H := .inl ⟨rfl, ys, sq_of e7⟩
  refine ⟨.ref a, e0, ty, h T σ H W _ fun v H1 W1 => ?_⟩
  obtain ⟨_, _, xs, e4, e5⟩ := W1.ok i _ ha
  refine ⟨a, xs, v, rfl, rfl, e4, by rw [dpa_length e5]; exact Nat.lt_of_lt_of_le hz (by decide), ?_⟩
  refine k _ _ (W1.pop.updM ha ⟨xs ++ [v], upd_same, ?_⟩)
  have hm : a ∈ hid c ρ1 := List.mem_append_right _ (mem_muts.mpr ⟨i, l, _, ha⟩)
  have e6 : Ex (hide (hid c ρ1) H1) (hide (hid c ρ1) (upd H1 a (.lst (xs ++ [v])))) := hide_mono fun b o nb e => ⟨nb, by rw [upd_ne (fun q => nb (by rw [q]; exact hm))]; exact e⟩
  exact dpam e6 (dpa_append e5 (.cons W1.dp .nil))
theorem s_setL {i : Nat} {l : Bool} {a : Addr} {ds : List PyData} {j : Int} {n : Nat} (h : Ed c ρ te d ρ1) (hj : Ed c ρ1 tb (.int j) ρ2) (h0 : ∃ l o, ρ1[i]? = some (.mu l a o)) (ha : ρ2[i]? = some (.mu l a (.lst ds))) (hn : ixN ds.length j = some n) (k : Sk c T (ρ2.set i (.mu l a (.lst (ds.set n d)))) nx) :
    Ss c T ρ (tAsg te (gSub (tVar i) tb rSetL)) ⟨nx, rt, bk, ct⟩ := fun σ H W => h T σ H W _ fun v H1 W1 => by
  obtain ⟨l0, o0, h0⟩ := h0
  obtain ⟨e0, _, _⟩ := W1.ok i _ h0
  refine ⟨.ref a, e0, hj _ σ H1 W1 _ fun w H2 W2 => ?_⟩
  obtain ⟨e1, e2, xs, e3, e4⟩ := W2.ok i _ ha
  refine ⟨a, xs, j, n, rfl, dp_int W2.dp, e3, by rw [dpa_length e4]; exact hn, ?_⟩
  have W3 := W2.pop
  refine k _ _ (W3.pop.updM ha ⟨xs.set n v, upd_same, ?_⟩)
  have hm : a ∈ hid c ρ2 := List.mem_append_right _ (mem_muts.mpr ⟨i, l, _, ha⟩)
  have e5 : Ex (hide (hid c ρ2) H2) (hide (hid c ρ2) (upd H2 a (.lst (xs.set n v)))) := hide_mono fun b o nb e => ⟨nb, by rw [upd_ne (fun q => nb (by rw [q]; exact hm))]; exact e⟩
  exact dpam e5 (dpa_set n e4 W3.dp)
theorem s_if {b : Bool} (h : Et c ρ t b ρ1) (h1 : b = true → Ss c T ρ1 ts D) (h2 : b = false → Ss c T ρ1 tu D) : Ss c T ρ (tIfS t ts tu) D := fun σ H W => h T σ H W _ fun H1 W1 => by
  cases b with
  | true => exact h1 rfl σ H1 W1
  | false => exact h2 rfl σ H1 W1
/-- an if that is not entered (what is in it is never reached) -/
theorem s_skip {b : Bool} (h : Et c ρ t b ρ1) (hb : b = false) (k : Sk c T ρ1 nx) : Ss c T ρ (tIfS t ts tNext) ⟨nx, rt, bk, ct⟩ := s_if h (fun e => by rw [hb] at e; cases e) (fun _ => k)
/-- a for over anything -/
theorem s_for {wi : TI} {tbd : TS} {ds : List Itm} (h : Ei c ρ wi ds ρ1) (I : Nat → List Sl) (h0 : Le ρ1 (I 0))
    (hs : ∀ (T' : Tm), (∀ p ∈ T, p ∈ T') → ∀ (i : Nat) (d : Itm), ds[i]? = some d → ∃ ρa ws, Eg c g d (I i) ρa ws ∧ Ss c T' ρa tbd ⟨fun σ H => Wd c T' H σ (I (i + 1)), rt, nx, fun σ H => Wd c T' H σ (I (i + 1))⟩)
    (hd : Sk c T (I ds.length) nx) : Ss c T ρ (tFor wi g tbd) ⟨nx, rt, bk, ct⟩ := fun σ H W => h T σ H W _ fun J H1 T1 W1 hw => by
  refine ⟨fun i m σ' H' => i + m = ds.length ∧ Wd c (T1 ++ T) H' σ' (I i), ⟨ds.length, by omega, W1.le h0⟩, fun i m σ' H' ⟨hm, W2⟩ => ?_⟩
  have hwk := hw c T σ' H' (I i) rfl W2
  by_cases hi : i < ds.length
  · refine .inr ⟨(hwk.1 i hi).1, fun σ3 H3 => Wd c (T1 ++ T) H3 σ3 (I (i + 1)), fun σ3 H3 h3 => ⟨m - 1, by omega, by omega, h3⟩, fun x H3 hy => ?_⟩
    obtain ⟨d, hd', W3⟩ := (hwk.1 i hi).2 x H3 hy
    obtain ⟨ρa, ws, g1, g2⟩ := hs (T1 ++ T) (fun p hp => List.mem_append_right _ hp) i d hd'
    exact g1 _ σ' H3 x W3 _ fun σ4 H4 W4 _ => g2 σ4 H4 W4
  · have ei : i = ds.length := by omega
    subst ei
    exact .inl ⟨hwk.2 _ (Nat.le_refl _), hd σ' H' (W2.tmps fun p hp => List.mem_append_right _ hp)⟩
/-- a for over typed items -/
theorem s_forX {α : Type} {wi : TI} {tbd : TS} (xs : List α) (ea : α → Itm) (h : Ei c ρ wi (xs.map ea) ρ1) (I : Nat → List Sl) (h0 : Le ρ1 (I 0))
    (hs : ∀ (T' : Tm), (∀ p ∈ T, p ∈ T') → ∀ (i : Nat) (x : α), xs[i]? = some x → ∃ ρa ws, Eg c g (ea x) (I i) ρa ws ∧ Ss c T' ρa tbd ⟨fun σ H => Wd c T' H σ (I (i + 1)), rt, nx, fun σ H => Wd c T' H σ (I (i + 1))⟩)
    (hd : Sk c T (I xs.length) nx) : Ss c T ρ (tFor wi g tbd) ⟨nx, rt, bk, ct⟩ := by
  refine s_for h I h0 (fun T' hT i d hd => ?_) (by rw [List.length_map]; exact hd)
  rw [List.getElem?_map] at hd
  cases hx : xs[i]? with
  | none => rw [hx] at hd; cases hd
  | some x =>
    rw [hx] at hd
    have hd : ea x = d := Option.some.inj hd
    subst hd
    exact hs T' hT i x hx
/-- a while, by a state α -/
theorem s_while {α : Type} {tbd : TS} (I : α → List Sl) (P : α → Prop) (μ : α → Nat) (a0 : α) (hP : P a0) (h0 : Le ρ (I a0))
    (hs : ∀ a, P a → ∃ (b : Bool) (ρa : List Sl), Et c (I a) t b ρa ∧ (b = true → Ss c T ρa tbd ⟨fun σ H => ∃ a', P a' ∧ μ a' < μ a ∧ Wd c T H σ (I a'), rt, nx, fun σ H => ∃ a', P a' ∧ μ a' < μ a ∧ Wd c T H σ (I a')⟩) ∧ (b = false → Sk c T ρa nx)) :
    Ss c T ρ (tWhile t tbd) ⟨nx, rt, bk, ct⟩ := fun σ H W => by
  refine ⟨fun m σ' H' => ∃ a, P a ∧ μ a = m ∧ Wd c T H' σ' (I a), ⟨μ a0, a0, hP, rfl, W.le h0⟩, fun m σ' H' ⟨a, ha, hm, W1⟩ => ?_⟩
  obtain ⟨b, ρa, g1, g2, g3⟩ := hs a ha
  refine g1 T σ' H' W1 _ fun H2 W2 => ?_
  cases b with
  | true =>
    rw [if_pos rfl]
    refine ⟨fun σ3 H3 => ∃ a', P a' ∧ μ a' < μ a ∧ Wd c T H3 σ3 (I a'), fun σ3 H3 ⟨a', q1, q2, q3⟩ => ⟨μ a', by omega, a', q1, rfl, q3⟩, g2 rfl σ' H2 W2⟩
  | false =>
    rw [if_neg (by decide)]
    exact g3 rfl σ' H2 W2
theorem s_endW {α : Type} {I : α → List Sl} {P : α → Prop} {μ : α → Nat} {n : Nat} (a' : α) (hP : P a') (hμ : μ a' < n) (h : Le ρ (I a')) : Sk c T ρ (fun σ H => ∃ a', P a' ∧ μ a' < n ∧ Wd c T H σ (I a')) := fun σ H W => ⟨a', hP, hμ, W.le h⟩
/-- what is wanted of what is returned -/
def Rt (c : Cz) (d : PyData) (ms : List (Addr × MO)) (rt : VK) : Prop := ∀ v H', (∀ a o, a ∉ c.M → c.B a = some o → H' a = some o) → (∀ p ∈ ms, MoOk c.K c.S0 H' p.1 p.2) → Dz c.K (hide c.S0 H') v d → rt v H'
theorem hide_S0 : Ex (hide (hid c ρ) H) (hide c.S0 H) := hide_mono fun a o n h => ⟨fun m => n (List.mem_append_left _ m), h⟩
theorem s_ret (h : Ed c ρ te d ρ1) (hr : Rt c d [] D.rt) : Ss c T ρ (tRet te) D := fun σ H W => h T σ H W _ fun v H1 W1 => hr v H1 W1.keep (fun _ hp => by cases hp) (dpm hide_S0 W1.dp)
theorem s_retS {i : Nat} {l : Bool} {a : Addr} {st : MO} (h : Ed c ρ te d ρ1) (hi : ρ1[i]? = some (.mu l a st)) (hr : Rt c d [(a, st)] D.rt) : Ss c T ρ (tRet te) D := fun σ H W => h T σ H W _ fun v H1 W1 => hr v H1 W1.keep (fun p hp => by
  simp only [List.mem_singleton] at hp
  subst hp
  exact (W1.ok i _ hi).2.2.mono hide_S0 rfl) (dpm hide_S0 W1.dp)
/-! ### a def's entry -/
theorem start_wd {K : PySem.W.Frag} {N : List Str} {vs : List V} {ds : List PyData} {S M : List Addr} {H : Hp} (hd : ∀ a ∈ S, ∃ o, H a = some o) (a : DzAll K (hide S H) vs ds) (hl : ds.length ≤ N.length) :
    Wd ⟨K, H, [], S⟩ [] H (L2.start N vs) (ds.map .da ++ List.replicate (N.length - ds.length) .no) := by
  have lv := dpa_length a
  have nm : ∀ (i : Nat) (l : Bool) (b : Addr) (o : MO), (ds.map Sl.da ++ List.replicate (N.length - ds.length) Sl.no)[i]? ≠ some (.mu l b o) := fun i l b o e => by
    have := List.mem_of_getElem? e
    simp at this
  have hid0 : muts (ds.map Sl.da ++ List.replicate (N.length - ds.length) Sl.no) = [] := by
    apply List.eq_nil_iff_forall_not_mem.mpr
    intro b m
    obtain ⟨i, l, o, e⟩ := mem_muts.mp m
    exact nm i l b o e
  have hh : hid ⟨K, H, [], S⟩ (ds.map Sl.da ++ List.replicate (N.length - ds.length) Sl.no) = S := by
    show S ++ muts _ = S
    rw [hid0, List.append_nil]
  refine ⟨?_, fun a o _ h => h, fun a m => (nomatch m), hd, fun p hp => (nomatch hp), fun i j l m a o u h _ => absurd h (nm i l a o), fun i a o h => absurd h (nm i true a o), fun i s e => ?_⟩
  · unfold L2.start
    simp [lv]
  · rw [hh]
    unfold L2.start
    by_cases hi : i < ds.length
    · rw [List.getElem?_append_left (by simpa using hi), List.getElem?_map, List.getElem?_eq_getElem hi] at e
      cases e
      obtain ⟨v, e1, e2⟩ := dpa_get a (List.getElem?_eq_getElem hi)
      refine ⟨v, ?_, e2⟩
      rw [List.getElem?_append_left (by simp; omega), List.getElem?_map, e1]
      rfl
    · rw [List.getElem?_append_right (by simp; omega)] at e
      have := List.mem_of_getElem? e
      simp at this
      rw [this.2]
      exact trivial
/-- a pure def -/
theorem fn_pure {K : PySem.W.Frag} {R : List PyData → PyData → Prop} {N : List Str} {ts : TS} (hN : ∀ ds d, R ds d → ds.length ≤ N.length)
    (h : ∀ (B : Hp) (S : List Addr) (ds : List PyData) (d : PyData), R ds d → ∀ D : Ends, Rt ⟨K, B, [], S⟩ d [] D.rt → (d = .none → ∀ T ρ, Sk ⟨K, B, [], S⟩ T ρ D.nx) → Ss ⟨K, B, [], S⟩ [] (ds.map .da ++ List.replicate (N.length - ds.length) .no) ts D)
    (vs : List V) (H : Hp) (Q : VK) (E : XK) (hs : SpP K R vs H Q E) : ts { nx := fun _ H' => Q .non H', rt := Q } (L2.start N vs) H := by
  obtain ⟨S, ds, d, hd, a, hR, q⟩ := hs
  refine h H S ds d hR { nx := fun _ H' => Q .non H', rt := Q } (fun v H' k _ dp => q v H' (fun a o e => k a o (fun m => nomatch m) e) dp) (fun e T ρ σ H' W => ?_) _ _ (start_wd (M := []) hd a (hN _ _ hR))
  subst e
  exact q .non H' (fun a o e => W.keep a o (fun m => nomatch m) e) .non
end
end Nz

/-! rules of the machine that the layer lacks: plain tuples, reversed tuples, sums of tuples, tuple.count, repr of data, products and quotients of great ints -/
namespace Nz
open PySem PySem.Spec PyProof.Rows L2 RZ HT

theorem isTup_dict {h : Heap} {a : Addr} {o : Obj} {its : Array Value} (e : h.get? a = some o) (p : IsTup h a its) : o.cls = .type "tuple" ∧ ∃ n, o.data = .seq its n := by
  obtain ⟨o', e', hc, hd⟩ := p
  rw [e] at e'
  cases e'
  exact ⟨hc, hd⟩
section
variable {X : Cx} {pins : List (Addr × Obj)} {σ : L2.St} {H : Hp} {s : Shared}
/-- a new tuple is laid, plain -/
theorem newTup (I : Inv X pins σ H s) {xs : List V} {its : List Value} {Q : VK} (z : xs.length ≤ sizeLine) (r : Vals xs its) (q : ∀ p o, o.dict = none → H p = none → Q (.ref p) (upd H p (.frz o (.tup xs)))) :
    EP X pins σ Q (.ref s.heap.objs.size) { s with heap := s.heap.push { cls := .type "tuple", data := .seq its.toArray } } := by
  refine ⟨.ref s.heap.objs.size, _, I.laid (t' := s.toks) (o := .frz { cls := .type "tuple", data := .seq its.toArray } (.tup xs)) (fun b ob q => Heap.get?_push_of_some _ q) (Nat.le_refl _) ?_, rfl, q _ _ rfl (I.hok.fresh (Nat.le_refl _))⟩
  exact ⟨Heap.get?_push_size _ rfl, z, its, r, IsTup.new _ _⟩
theorem pe_tupF {es : List Expr} {t : TA} {x1} {pos : Pos} (h : PA X es t) : PE X (.Tuple es x1 pos) (tTupF t) := by
  refine ⟨fun pins s σ H Q I hq => ?_⟩
  refine wpAny_Tuple_spliced (thn (h.run pos pins s σ H _ I hq) fun us s1 ⟨xs, H1, I1, r, z, q⟩ => ⟨by rw [← r.length]; exact z, ?_⟩)
  exact newTup I1 z r q
theorem call_tupleF : CallR X (.type "tuple") (rTupOf X.K) := by
  intro pins s σ H xs us Q I r h
  obtain ⟨p, ys, rfl, h⟩ := h
  obtain ⟨u, rfl, rx⟩ := vals1 r
  cases rx
  rcases h with ⟨hq, q⟩ | ⟨hq, q⟩
  · obtain ⟨its, r', pl, hz⟩ := I.list hq
    have hlen := r'.length
    refine call_tuple_list pl.isList (fun h' kp => ?_) (by simp only [List.size_toArray] <;> omega)
    exact newTup (s := { s with heap := h' }) (I.kept (t' := s.toks) kp) hz r' q
  · obtain ⟨its, r', pl, hz⟩ := I.tuple hq
    exact call_tuple_same pl ⟨.ref p, H, I, rfl, q⟩
/-- t + u -/
def rCatF (K : PySem.W.Frag) : R2 := fun x y H Q => ∃ a b xs ys, x = .ref a ∧ y = .ref b ∧ SqT K H a xs ∧ SqT K H b ys ∧ xs.length + ys.length ≤ sizeLine ∧
  (xs = [] → Q (.ref b) H) ∧ (xs ≠ [] → ys = [] → Q (.ref a) H) ∧ (xs ≠ [] → ys ≠ [] → ∀ p o, o.dict = none → H p = none → Q (.ref p) (upd H p (.frz o (.tup (xs ++ ys)))))
theorem op_catF : OpR X (binaryOp .Add) (rCatF X.K) := by
  intro pins s σ H x y v u Q I rx ry h
  obtain ⟨a, b, xs, ys, rfl, rfl, ha, hb, hz, q0, q1, q2⟩ := h
  cases rx
  cases ry
  obtain ⟨its, r1, p1, _⟩ := I.tuple ha
  obtain ⟨its2, r2, p2, _⟩ := I.tuple hb
  by_cases hx : xs = []
  · subst hx
    cases r1
    exact cat_tup0 p1 p2 ⟨.ref b, H, I, rfl, q0 rfl⟩
  · refine cat_tup p1 p2 (fun z => hx (r1.nil_iff.mp z)) (fun z => ⟨.ref a, H, I, rfl, q1 hx (r2.nil_iff.mp z)⟩) (fun z => ?_) (by rw [← r1.length, ← r2.length]; exact hz)
    exact newTup I (by rw [List.length_append]; exact hz) (r1.append r2) (q2 hx (fun w => z (r2.nil_iff.mpr w)))
/-- t[lo:hi]: the whole of it is t itself -/
def rSlF (K : PySem.W.Frag) : V → Option Int → Option Int → Hp → VK → Prop := fun x lo hi H Q => ∃ a xs, x = .ref a ∧ SqT K H a xs ∧
  (sIx xs.length 0 lo = 0 ∧ sIx xs.length xs.length hi = xs.length → Q (.ref a) H) ∧ (¬ (sIx xs.length 0 lo = 0 ∧ sIx xs.length xs.length hi = xs.length) → ∀ p o, o.dict = none → H p = none → Q (.ref p) (upd H p (.frz o (.tup (cutV xs lo hi)))))
theorem sl_tupF : SlR X (rSlF X.K) := by
  intro pins s σ H x v vl vu lo hi sl Q I rx hs pl pu h
  obtain ⟨a, xs, rfl, hx, q1, q2⟩ := h
  cases rx
  obtain ⟨its, r, ht, hz⟩ := I.tuple hx
  have hlen : its.toArray.size = xs.length := by rw [List.size_toArray]; exact r.length.symm
  by_cases hw : sIx xs.length 0 lo = 0 ∧ sIx xs.length xs.length hi = xs.length
  · refine ⟨"tuple", _, PyProof.Rows.slot_tuple_getitem.lookup, ht.typeIs, ?_⟩
    exact getItem_tuple_whole ht hs pl pu (by rw [hlen]; exact hw) ⟨.ref a, H, I, rfl, q1 hw⟩
  · refine ⟨"tuple", _, PyProof.Rows.slot_tuple_getitem.lookup, ht.typeIs, ?_⟩
    refine getItem_tuple_cut ht hs pl pu (by rw [hlen]; exact hw) ?_ (by rw [hlen]; exact hz)
    rw [hlen]
    exact newTup I (Nat.le_trans (cutV_length xs lo hi) hz) ((r.drop _).take _) (q2 hw)
end
/-! ### t[::-1] -/
section
variable {prog : Program} {w : World} {A : Around} {E : Value → Shared → Prop} {s : Shared}
theorem sliceApplied_rev {sl : Addr} {vl vu vs : Value} {n : Nat} {Q : Int × Int × Nat → Shared → Prop} (hs : s.heap.IsSliceOf sl vl vu vs) (pl : IsPart vl none) (pu : IsPart vu none) (ps : IsPart vs (some (-1)))
    (h : Q ((n : Int) - 1, -1, n) s) : wpAny (model prog w) A (Builtin.Slice.sliceApplied (.ref sl) (pure (n : Int))) Q E s := by
  obtain ⟨os, hos, hcs, hds⟩ := id hs
  unfold Builtin.Slice.sliceApplied Builtin.Slice.sliceFields
  refine wpAny_bind (wpAny_bind (wpAny_field hos hds (x := vl) rfl (wpAny_bind (wpAny_field hos hds (x := vu) rfl (wpAny_bind (wpAny_field hos hds (x := vs) rfl (wpAny_pure ?_)))))))
  refine wpAny_bind (slicePart_ ps ?_)
  show wpAny _ _ (if ((-1 : Int) == 0) = true then _ else _) _ _ s
  rw [if_neg (by decide)]
  refine wpAny_bind (slicePart_ pl (wpAny_bind (slicePart_ pu (wpAny_bind (wpAny_pure ?_)))))
  show wpAny _ _ (match Builtin.Slice.sliceAdjust none none (-1) (n : Int) with | (lo, hi) => pure (lo, (-1 : Int), Builtin.Slice.slicePlaces lo hi (-1))) _ _ s
  have e1 : Builtin.Slice.sliceAdjust none none (-1) (n : Int) = ((n : Int) - 1, -1) := rfl
  have e2 : Builtin.Slice.slicePlaces ((n : Int) - 1) (-1) (-1) = n := by
    unfold Builtin.Slice.slicePlaces
    rw [if_neg (by decide), show (-(-1 : Int)) = 1 from rfl, Int.ediv_one]
    split <;> omega
  rw [e1]
  show wpAny _ _ (pure ((n : Int) - 1, (-1 : Int), Builtin.Slice.slicePlaces ((n : Int) - 1) (-1) (-1))) _ _ s
  rw [e2]
  exact wpAny_pure h
theorem pick_rev (xs : Array Value) : ((List.range xs.size).filterMap fun (m : Nat) => xs[(((xs.size : Int) - 1) + (m : Int) * (-1)).toNat]?) = xs.toList.reverse := by
  apply List.ext_getElem?
  intro i
  have e : ((List.range xs.size).filterMap fun (m : Nat) => xs[(((xs.size : Int) - 1) + (m : Int) * (-1)).toNat]?) = (List.range xs.size).map fun (m : Nat) => xs.toList.getD (xs.size - 1 - m) .none := by
    have : ∀ l : List Nat, (∀ m ∈ l, m < xs.size) → (l.filterMap fun (m : Nat) => xs[(((xs.size : Int) - 1) + (m : Int) * (-1)).toNat]?) = l.map fun (m : Nat) => xs.toList.getD (xs.size - 1 - m) .none := fun l => by
      induction l with
      | nil => intro _; rfl
      | cons m l ih =>
        intro h
        have hm := h m (List.mem_cons_self ..)
        have ei : (((xs.size : Int) - 1) + (m : Int) * (-1)).toNat = xs.size - 1 - m := by omega
        have hlt : xs.size - 1 - m < xs.size := by omega
        rw [List.filterMap_cons, List.map_cons, ei, Array.getElem?_eq_getElem hlt, ih fun k hk => h k (List.mem_cons_of_mem _ hk)]
        simp [List.getD, hlt]
    exact this _ fun m hm => List.mem_range.mp hm
  rw [e, List.getElem?_map]
  by_cases hi : i < xs.size
  · rw [List.getElem?_range hi, List.getElem?_reverse (by simpa using hi)]
    simp [List.getD, show xs.size - 1 - i < xs.size by omega]
  · rw [List.getElem?_eq_none_iff.mpr (by simp; omega), List.getElem?_eq_none_iff.mpr (by simp; omega)]
    rfl
theorem getItem_tuple_rev {t sl : Addr} {items : Array Value} {vl vu vs : Value} {Q : Value → Shared → Prop} (ht : IsTup s.heap t items) (hs : s.heap.IsSliceOf sl vl vu vs) (pl : IsPart vl none) (pu : IsPart vu none) (ps : IsPart vs (some (-1)))
    (h : Q (.ref s.heap.objs.size) { s with heap := s.heap.push { cls := .type "tuple", data := .seq items.toList.reverse.toArray } })
    (hsz : items.size ≤ sizeLine) : wpAny (model prog w) A (getItem (.ref t) (.ref sl)) Q E s := by
  have htake : sizeOk (.seq items.toList.reverse.toArray) := by
    show items.toList.reverse.toArray.size ≤ sizeLine
    rw [List.size_toArray, List.length_reverse, Array.length_toList]
    exact hsz
  obtain ⟨os, hos, hcs, hds⟩ := id hs
  have hTs : s.TypeIs (.ref sl) "slice" := ⟨os, hos, hcs⟩
  unfold getItem
  try with_reducible refine wpAny_holding ?_
  first | refine wpAny_bind (wpAny_pure ?_) | skip
  refine wpAny_bind (wpAny_sequenceKey ht.typeIs (by decide) ?_)
  refine wpAny_bind (wpAny_callSpecial?_slot (name := Str.ofString "__getitem__") ht.typeIs PyProof.Rows.slot_tuple_getitem
    (wpAny_call_entry PyProof.Rows.slot_tuple_getitem ht.typeIs entry_tuple_getitem ?_ (args_tuple_getitem _ _)))
  show wpAny _ _ (Builtin.Tuple.tupleItemsOf (.ref t) >>= _) _ _ s
  refine wpAny_bind (tupleItemsOf_ ht ?_)
  refine wpAny_bind (wpAny_typeOf hTs ?_)
  rw [if_pos (by decide)]
  refine wpAny_bind (sliceApplied_rev hs pl pu ps ?_)
  have hno : ¬ ((((items.size : Int) - 1) == 0 && (-1 : Int) == 1 && items.size == items.size) = true) := by
    intro q
    rw [Bool.and_eq_true, Bool.and_eq_true] at q
    exact absurd (eq_of_beq q.1.2) (by decide)
  show wpAny _ _ (if (((items.size : Int) - 1) == 0 && (-1 : Int) == 1 && items.size == items.size) = true then _ else _) _ _ s
  rw [if_neg hno, pick_rev]
  first
    | exact wpAny_bind (m := Builtin.Tuple.tupleExact _) (wpAny_newObj_type (wpAny_pure ⟨_, rfl, wpAny_pure h⟩) htake)
    | exact wpAny_bind (m := Builtin.Tuple.tupleExact _) (wpAny_newObj_type (wpAny_bind (wpAny_pure (wpAny_pure ⟨_, rfl, wpAny_pure h⟩))) htake)
    | exact wpAny_bind (wpAny_bind (m := Builtin.Tuple.tupleExact _) (wpAny_newObj_type (wpAny_pure (wpAny_pure ⟨_, rfl, wpAny_pure h⟩)) htake))
    | exact wpAny_bind (wpAny_bind (m := Builtin.Tuple.tupleExact _) (wpAny_newObj_type (wpAny_pure ⟨_, rfl, wpAny_pure h⟩) htake))
end
section
variable {X : Cx}
def tRevT (K : PySem.W.Frag) (te : TE) : TE := fun σ H Q => te σ H fun x H1 => ∃ a xs, x = .ref a ∧ SqT K H1 a xs ∧ ∀ p o, o.dict = none → H1 p = none → Q (.ref p) (upd H1 p (.frz o (.tup xs.reverse)))
theorem pe_revT {e : Expr} {te : TE} {k : Nat} {p1 p2 p3 pos : Pos} (he : PE X e te) : PE X (.Subscript e (.Slice none none (some (.UnaryOp .USub (.Constant (.int 1) k p1) p2)) p3) pos) (tRevT X.K te) := by
  refine ⟨fun pins s σ H Q I h => ?_⟩
  refine Subscript_ (thn (he.run pins s σ H _ I h) fun v s1 ⟨x, H1, I1, r1, q1⟩ => ?_)
  obtain ⟨a, xs, ex, hx, q⟩ := q1
  subst ex
  cases r1
  have hst : PO X (some (.UnaryOp .USub (.Constant (.int 1) k p1) p2)) (tPart (tUn (rU fun i => .int (-i)) (tC (.int 1)))) := po_some (pe_un un_neg pe_int)
  refine wpAny_Slice (thn (po_none.run pins s1 σ H1 (fun o H2 => o = none ∧ H2 = H1) I1 ⟨rfl, rfl⟩) fun vl s2 ⟨l, H2, I2, pl, el, e2⟩ => ?_)
  subst el e2
  refine thn (po_none.run pins s2 σ H2 (fun o H3 => o = none ∧ H3 = H2) I2 ⟨rfl, rfl⟩) fun vu s3 ⟨u, H3, I3, pu, eu, e3⟩ => ?_
  subst eu e3
  refine thn (hst.run pins s3 σ H3 (fun o H4 => o = some (-1) ∧ H4 = H3) I3 ⟨1, rfl, -1, rfl, rfl, rfl⟩) fun vs s4 ⟨o, H4, I4, ps, eo, e4⟩ => ?_
  subst eo e4
  have I5 : Inv X pins σ H4 { s4 with heap := s4.heap.push { cls := .type "slice", data := .fields #[vl, vu, vs] } } := I4.kept (t' := s4.toks) fun b ob q => Heap.get?_push_of_some _ q
  obtain ⟨its, r, ht, hz⟩ := I5.tuple hx
  have hlen := r.length
  show wpAny (model X.prog X.w) X.A (subscriptTail e (.Slice none none (some (.UnaryOp .USub (.Constant (.int 1) k p1) p2)) p3) (.ref a) (.ref s4.heap.objs.size)) (EP X pins σ Q) X.xe { s4 with heap := s4.heap.push { cls := .type "slice", data := .fields #[vl, vu, vs] } }
  refine tail_any (ops := [.ref a, .ref s4.heap.objs.size]) ht.typeIs (PyProof.Rows.slot_tuple_getitem.lookup) ?_ (by with_unfolding_all rfl)
  refine getItem_tuple_rev ht (Heap.IsSliceOf.new _ vl vu vs) pl pu ps ?_ (by rw [List.size_toArray]; omega)
  exact newTup I5 (by rw [List.length_reverse]; exact hz) r.reverse q
end
/-! ### list + list, whatever they are -/
section
variable {X : Cx}
def rCatG (K : PySem.W.Frag) : R2 := fun x y H Q => ∃ a b xs ys, x = .ref a ∧ y = .ref b ∧ SqL K H a xs ∧ SqL K H b ys ∧ xs.length + ys.length ≤ sizeLine ∧ ∀ p, H p = none → Q (.ref p) (upd H p (.lst (xs ++ ys)))
theorem op_catG : OpR X (binaryOp .Add) (rCatG X.K) := by
  intro pins s σ H x y v u Q I rx ry h
  obtain ⟨a, b, xs, ys, rfl, rfl, ha, hb, hz, q⟩ := h
  cases rx
  cases ry
  obtain ⟨its, r, ⟨⟨cls, dd, data, sl⟩, n, ho, hc, hdd, hd⟩, hl⟩ := I.list ha
  obtain ⟨its2, r2, ⟨⟨cls2, dd2, data2, sl2⟩, n2, ho2, hc2, hdd2, hd2⟩, hl2⟩ := I.list hb
  simp only at hc hd hc2 hd2
  subst hc hd hc2 hd2
  have e1 := r.length
  have e2 := r2.length
  refine concat_meets ⟨_, ho, rfl⟩ ⟨_, ho2, rfl⟩ noFill_list_add seq_list_add PySem.F.slot_list_add PySem.F.entry_list_add (PySem.F.args_list_add_2 _ _)
    (list_addW a b its.toArray its2.toArray n n2 dd dd2 sl sl2 (by rw [List.size_toArray, List.size_toArray]; omega)) ⟨ho, ho2, ?_⟩
  have ea : its.toArray ++ its2.toArray = (its ++ its2).toArray := by simp
  rw [ea]
  exact ⟨.ref _, _, I.lnew (t' := s.toks) (r.append r2) (by rw [List.length_append]; exact hz), rfl, q _ I.fresh⟩
/-- xs[i], by values -/
def rGetG (K : PySem.W.Frag) : V → V → Hp → VK → Prop := fun x y H Q => ∃ p xs i v, x = .ref p ∧ y = .int i ∧ SqL K H p xs ∧ atI xs i = some v ∧ Q v H
end
/-! ### ints of any size -/
section
variable {X : Cx}
theorem op_mulG : OpR X (binaryOp .Mult) (rI IntMulOk fun i j => .int (i * j)) := opI fun _ _ _ _ _ _ _ hc q => mul_int q hc
theorem iop_mulG : OpR X (inplaceOp .Mult) (rI IntMulOk fun i j => .int (i * j)) := opI fun _ _ _ _ _ _ _ hc q => imul_int q hc
def CDivG (i j : Int) : Prop := 0 < j ∧ Builtin.divisionGoesByPylong i j = false
theorem op_fdivG : OpR X (binaryOp .FloorDiv) (rI CDivG fun i j => .int (i / j)) := opI fun i j _ _ _ _ _ hc q => by
  have h1 : (0 : Int) < j := hc.1
  exact floordiv_int (by omega) (by rw [Int.fdiv_eq_ediv_of_nonneg i (by omega)]; exact q) (.inl hc.2)
end
/-! ### sums, greatest and least items of tuples -/
section
variable {prog : Program} {w : World} {A : Around} {E : Value → Shared → Prop} {s : Shared} {l : Addr} {xs : Array (Int × Tok)}
theorem iter_intTup {Q : Value → Shared → Prop} (hl : s.heap.IsTuple l (intItems xs))
    (h : ∀ s₂ : Shared, s₂ = { s with heap := s.heap.push { cls := .type "tuple_iterator", data := .fields #[.ref l, .int 0 0] } } →
      (s₂.heap.IsTupleIter s.heap.objs.size l 0 ∧ s₂.heap.IsTuple l (intItems xs)) → (∀ b ∈ [s.heap.objs.size, l], b < s₂.heap.objs.size) → l ≠ s.heap.objs.size → Q (.ref s.heap.objs.size) s₂) :
    wpAny (model prog w) A (pyIter (.ref l)) Q E s := by
  have hlt : l < s.heap.objs.size := by obtain ⟨_, e, _⟩ := hl; exact Heap.lt_size e
  refine wpAny_pyIter_tuple hl (h _ rfl ⟨⟨_, Heap.get?_push_size _ rfl, rfl, rfl⟩, hl.at fun o e => Heap.get?_push_of_some _ e⟩ (fun b hb => ?_) (Nat.ne_of_lt hlt))
  show b < (s.heap.push _).objs.size
  rw [Heap.size_push]
  rcases List.mem_cons.mp hb with rfl | hb
  · exact Nat.lt_succ_self _
  · rcases List.mem_cons.mp hb with rfl | hb
    · exact Nat.lt_succ_of_lt hlt
    · cases hb
theorem old_keptT {h' : Heap} (hk : ∀ b o, b ∉ [s.heap.objs.size] → (s.heap.push { cls := .type "tuple_iterator", data := .fields #[.ref l, .int 0 0] }).get? b = some o → h'.get? b = some o) :
    ∀ b o, s.heap.get? b = some o → h'.get? b = some o := fun b o e => hk b o (by simpa using Nat.ne_of_lt (Heap.lt_size e)) (Heap.get?_push_of_some _ e)
theorem sum_intTupG {Q : Value → Shared → Prop} (hh : A.handled = none) (hl : s.heap.IsTuple l (intItems xs))
    (h : ∀ h' tk t', (∀ b o, s.heap.get? b = some o → h'.get? b = some o) → Q (.int (preSum (numAt xs) xs.size) t') { s with heap := h', toks := tk }) :
    wpAny (model prog w) A (call (.builtin "sum") [.ref l]) Q E s := by
  refine call_sum_walkG (iter_intTup hl fun s₂ e st hfp hlI => ?_)
  subst e
  refine ⟨_, _, _, _, _, _, numAt xs, rfl, Walks.tuple (A := A.in1) hh _ l hlI (intItems xs), st, hfp, (fun _ _ => intItems_at), fun h' tk t' hk => ?_⟩
  have := h h' tk t' (old_keptT hk)
  simpa [intItems] using this
theorem max_intTup {Q : Value → Shared → Prop} (hh : A.handled = none) (hl : s.heap.IsTuple l (intItems xs)) (hne : 0 < xs.size)
    (h : ∀ v h' tk, (intItems xs)[argBest (fun i j => decide (numAt xs i > numAt xs j)) (xs.size - 1)]? = some v → (∀ b o, s.heap.get? b = some o → h'.get? b = some o) → Q v { s with heap := h', toks := tk }) :
    wpAny (model prog w) A (call (.builtin "max") [.ref l]) Q E s := by
  refine call_max_walk (iter_intTup hl fun s₂ e st hfp hlI => ?_)
  subst e
  refine ⟨_, _, _, _, _, _, _, rfl, Walks.tuple (A := A.in1) hh _ l hlI (intItems xs), st, hfp, by simpa [intItems] using hne, CmpOf.ints_gt (numAt xs) (fun _ _ => intItems_at), fun v h' tk hP hk => ?_⟩
  exact h v h' tk (by simpa [intItems] using hP) (old_keptT hk)
theorem min_intTup {Q : Value → Shared → Prop} (hh : A.handled = none) (hl : s.heap.IsTuple l (intItems xs)) (hne : 0 < xs.size)
    (h : ∀ v h' tk, (intItems xs)[argBest (fun i j => decide (numAt xs i < numAt xs j)) (xs.size - 1)]? = some v → (∀ b o, s.heap.get? b = some o → h'.get? b = some o) → Q v { s with heap := h', toks := tk }) :
    wpAny (model prog w) A (call (.builtin "min") [.ref l]) Q E s := by
  refine call_min_walk (iter_intTup hl fun s₂ e st hfp hlI => ?_)
  subst e
  refine ⟨_, _, _, _, _, _, _, rfl, Walks.tuple (A := A.in1) hh _ l hlI (intItems xs), st, hfp, by simpa [intItems] using hne, CmpOf.ints_lt (numAt xs) (fun _ _ => intItems_at), fun v h' tk hP hk => ?_⟩
  exact h v h' tk (by simpa [intItems] using hP) (old_keptT hk)
end
section
variable {X : Cx}
def rSumT (K : PySem.W.Frag) : List V → Hp → VK → Prop := fun vs H Q => ∃ (a : Addr) (ns : List Int), vs = [V.ref a] ∧ (SqT K H a (ns.map V.int) ∨ SqL K H a (ns.map V.int)) ∧ Q (.int ns.sum) H
theorem cr_sumT (hc : X.calm = true) : CallR X (.builtin "sum") (rSumT X.K) := by
  intro pins s σ H vs us Q I r h
  obtain ⟨a, ns, rfl, hs, q⟩ := h
  rcases hs with hs | hs
  · obtain ⟨its, rv, ht, _⟩ := I.tuple hs
    rw [Vals.ref1 r]
    have hi := rv.ints
    obtain ⟨xs, e⟩ := hi.allInts.items
    have hn : numsOf (intItems xs).toList = ns := by rw [← e]; exact hi.numsOf
    rw [nums_intItems] at hn
    rw [e] at ht
    refine sum_intTupG (I.ok.hd hc) ht fun h' tk t' hk => ?_
    refine ⟨.int _, H, I.kept hk, ⟨t', ?_⟩, q⟩
    rw [preSum_eq, List.take_of_length_le (by simp), hn]
  · exact cr_sum hc pins s σ H _ us Q I r ⟨a, ns, rfl, hs, q⟩
def rMaxT (K : PySem.W.Frag) : List V → Hp → VK → Prop := fun vs H Q => ∃ (a : Addr) (ns : List Int), vs = [V.ref a] ∧ (SqT K H a (ns.map V.int) ∨ SqL K H a (ns.map V.int)) ∧ 0 < ns.length ∧ ∀ m, m ∈ ns → (∀ y, y ∈ ns → y ≤ m) → Q (.int m) H
def rMinT (K : PySem.W.Frag) : List V → Hp → VK → Prop := fun vs H Q => ∃ (a : Addr) (ns : List Int), vs = [V.ref a] ∧ (SqT K H a (ns.map V.int) ∨ SqL K H a (ns.map V.int)) ∧ 0 < ns.length ∧ ∀ m, m ∈ ns → (∀ y, y ∈ ns → m ≤ y) → Q (.int m) H
theorem cr_maxT (hc : X.calm = true) : CallR X (.builtin "max") (rMaxT X.K) := by
  intro pins s σ H vs us Q I r h
  obtain ⟨a, ns, rfl, hs, hne, q⟩ := h
  rcases hs with hs | hs
  · obtain ⟨its, rv, ht, _⟩ := I.tuple hs
    rw [Vals.ref1 r]
    have hi := rv.ints
    obtain ⟨xs, e⟩ := hi.allInts.items
    have hn : numsOf (intItems xs).toList = ns := by rw [← e]; exact hi.numsOf
    rw [nums_intItems] at hn
    subst hn
    rw [e] at ht
    have hsz : 0 < xs.size := by simpa using hne
    refine max_intTup (I.ok.hd hc) ht hsz fun v h' tk hv hk => ?_
    obtain ⟨t, rfl⟩ := intItems_at hv
    obtain ⟨h1, h2⟩ := argBest_gt (numAt xs) (xs.size - 1)
    refine ⟨.int _, H, I.kept hk, ⟨t, rfl⟩, q _ ?_ fun a ha => ?_⟩
    · rw [numAt_eq]; exact PySem.getD_mem (by rw [List.length_map, Array.length_toList]; omega)
    · obtain ⟨j, hj, rfl⟩ := mem_getD ha
      rw [List.length_map, Array.length_toList] at hj
      have := h2 j (by omega)
      rw [numAt_eq, numAt_eq] at this
      rw [numAt_eq]
      exact this
  · exact cr_max hc pins s σ H _ us Q I r ⟨a, ns, rfl, hs, hne, q⟩
theorem cr_minT (hc : X.calm = true) : CallR X (.builtin "min") (rMinT X.K) := by
  intro pins s σ H vs us Q I r h
  obtain ⟨a, ns, rfl, hs, hne, q⟩ := h
  rcases hs with hs | hs
  · obtain ⟨its, rv, ht, _⟩ := I.tuple hs
    rw [Vals.ref1 r]
    have hi := rv.ints
    obtain ⟨xs, e⟩ := hi.allInts.items
    have hn : numsOf (intItems xs).toList = ns := by rw [← e]; exact hi.numsOf
    rw [nums_intItems] at hn
    subst hn
    rw [e] at ht
    have hsz : 0 < xs.size := by simpa using hne
    refine min_intTup (I.ok.hd hc) ht hsz fun v h' tk hv hk => ?_
    obtain ⟨t, rfl⟩ := intItems_at hv
    obtain ⟨h1, h2⟩ := argBest_lt (numAt xs) (xs.size - 1)
    refine ⟨.int _, H, I.kept hk, ⟨t, rfl⟩, q _ ?_ fun a ha => ?_⟩
    · rw [numAt_eq]; exact PySem.getD_mem (by rw [List.length_map, Array.length_toList]; omega)
    · obtain ⟨j, hj, rfl⟩ := mem_getD ha
      rw [List.length_map, Array.length_toList] at hj
      have := h2 j (by omega)
      rw [numAt_eq, numAt_eq] at this
      rw [numAt_eq]
      exact this
  · exact cr_min hc pins s σ H _ us Q I r ⟨a, ns, rfl, hs, hne, q⟩
end
/-! ### repr of data -/
section
variable {X : Cx}
def showOk (d : PyData) : Prop := d.showable = true ∧ d.hasDict = false ∧ d.depth ≤ 60 ∧ d.shown.length ≤ sizeLine
def rRepr (K : PySem.W.Frag) : List V → Hp → VK → Prop := fun xs H Q => ∃ v d, xs = [v] ∧ Dp K H v d ∧ showOk d ∧ Q (.str d.shown) H
theorem call_repr (hg : X.A.guards = some []) (hu : X.A.units + 61 < cLine) : CallR X (.builtin "repr") (rRepr X.K) := by
  intro pins s σ H xs us Q I r h
  obtain ⟨v, d, rfl, hd, ⟨h1, h2, h3, h4⟩, q⟩ := h
  obtain ⟨u, rfl, ru⟩ := vals1 r
  obtain ⟨as, rd⟩ := Dp.reads I d v u hd ru
  cases rd with
  | none => exact PySem.P.repr_of_none ⟨.str _, H, I.tok _, ⟨_, rfl⟩, q⟩
  | bool b => exact PySem.P.repr_of_bool ⟨.str _, H, I.tok _, ⟨_, rfl⟩, q⟩
  | int i t => exact PySem.P.repr_of_int (by simpa [PyData.showable] using h1) ⟨.str _, H, I.tok _, ⟨_, rfl⟩, q⟩
  | str x t => exact PySem.P.repr_of_str ⟨.str _, H, I.tok _, ⟨_, rfl⟩, q⟩ h4
  | list a1 a2 a3 a4 =>
    exact repr_of_reads' (.list a1 a2 a3 a4) h1 (fun e => by rw [h2] at e; cases e) hg (by omega) (fun _ _ e => e) (fun h' u tk hk => ⟨.str _, H, I.kept (t' := tk) hk, ⟨u, rfl⟩, q⟩) h4
  | tuple a1 a2 a3 a4 =>
    exact repr_of_reads' (.tuple a1 a2 a3 a4) h1 (fun e => by rw [h2] at e; cases e) hg (by omega) (fun _ _ e => e) (fun h' u tk hk => ⟨.str _, H, I.kept (t' := tk) hk, ⟨u, rfl⟩, q⟩) h4
  | dict a1 a2 a3 a4 a5 => simp [PyData.hasDict] at h2
end
end Nz

/-! defs and their calls, where no repr is on the way (so that repr may be called) -/
namespace Nz
open PySem PySem.Spec PyProof.Rows L2
section
variable {P : Program} {w : World} {K : PySem.W.Frag} {mg : Str → Option Value} {base : Heap}
/-- a def keeps its promise, wherever it is called from a place at which no repr runs -/
structure FnG (P : Program) (w : World) (K : PySem.W.Frag) (mg : Str → Option Value) (base : Heap) (k : Nat) (f : Addr) (fd : FuncData) (ps : List Str) (sp : Sp) : Prop where
  len : ∀ vs H Q, sp vs H Q E0 → vs.length = ps.length
  run : ∀ (A : Around) (outer : List Env) (s : Shared) (H : Hp) (args : Args) (us : List Value) (vs : List V) (Q : VK), Room k A → A.guards = some [] → Env0 P w K mg base A outer s H →
    BindsTo s fd args (ps.zip us) → Vals vs us → sp vs H Q E0 → codeAny (model P w) A (.call (.ref f) args) (CR CX0 outer P w H s Q E0) s
theorem FnG.mono {j k : Nat} {f : Addr} {fd : FuncData} {ps : List Str} {sp : Sp} (F : FnG P w K mg base j f fd ps sp) (h : j ≤ k) : FnG P w K mg base k f fd ps sp :=
  ⟨F.len, fun A outer s H args us vs Q hr => F.run A outer s H args us vs Q (hr.mono h)⟩
theorem guards_deeper {A : Around} {env : Env} (h : A.guards = some []) : (A.deeper env).guards = some [] := h
/-- a def of the text, by its body -/
theorem fnG_of {x qual : Str} {st : Stmt} {f : Addr} {fd : FuncData} {N ps : List Str} {k : Nat} {sp : Sp} (F : Fun K x qual st f fd) (S : FnScope N ps (defScope st)) (len : ∀ vs H Q, sp vs H Q E0 → vs.length = ps.length)
    (hbody : ∀ (cdv : Value) (A : Around) (outer : List Env) (s : Shared) (H : Hp), Room k (A.deeper (envOfC qual (defScope st) s.heap.objs.size f cdv)) → A.guards = some [] →
      ∃ t, PSs (cxOf CX0 P w K mg base N qual (defScope st) f cdv A outer s H E0).nox (defBody st) t ∧ ∀ (vs : List V) (Q : VK), sp vs H Q E0 → t { nx := fun _ H' => Q .non H', rt := Q } (L2.start N vs) H) :
    FnG P w K mg base (k + 1) f fd ps sp := by
  obtain ⟨oc, od, kV, doc, pm, an, cdv, ct, osl, rfl, lk, hcd⟩ := F.ex
  refine ⟨len, fun A outer s H args us vs Q hr hgd e0 hb r hsp => ?_⟩
  have hl := len _ _ _ hsp
  have kept : ∀ b o, base.get? b = some o → s.heap.get? b = some o := fun b o e => (e0.bs b o e).1
  have KX : K.In s.heap := e0.mod.kin.keeps kept
  have pk : ∀ y ∈ ps.zip us, (defScope st).names.lookup y.1 = some .local ∨ ((defScope st).names.lookup y.1 = some .cell ∧ ((cellsFrom (s.heap.objs.size + 1) (defScope st).names []).lookup y.1).isSome = true) := by
    intro y hy
    obtain ⟨n, v⟩ := y
    cases S.par n (List.of_mem_zip hy).1 with
    | inl q => exact .inl q
    | inr q => exact .inr ⟨q, PySem.W.cellsFrom_some _ _ _ (.inl q)⟩
  apply codeAny_call_function hr.depth (KX _ _ lk) rfl S.co S.gen rfl (PySem.W.codeRec_of KX hcd)
  apply hb
  refine wpAny_newFunctionEnv_cells S.kind pk fun env he s1 x => ?_
  subst he
  refine ⟨(e0.mod.nolimit.keeps kept).keeps x.toInCall.keep, codeAny_func ?_⟩
  obtain ⟨t, ht, hq⟩ := hbody cdv A outer s H (hr.deeper _) hgd
  have I := inv_start (CX := CX0) (E := E0) (cd := cdv) (qual := qual) S hr.hd e0 hl r x
  refine wpAny_mono (ht.nox.run [] s1 _ H _ I (hq vs Q hsp)) (fun fl s' hs => ?_) fun e s' hs => hs
  match fl, hs with
  | .ret u, ⟨v, σ', H', J, rv, q⟩ => exact ⟨v, H', J.os, J.bare, J.base, J.hok, rv, q⟩
  | .next, ⟨σ', H', J, q⟩ => exact ⟨V.non, H', J.os, J.bare, J.base, J.hok, rfl, q⟩
  | .brk, ⟨_, _, _, q⟩ => exact q.elim
  | .cont, ⟨_, _, _, q⟩ => exact q.elim
/-- a def that is called by its name -/
structure Cl (P : Program) (w : World) (K : PySem.W.Frag) (mg : Str → Option Value) (base : Heap) (k : Nat) (x : Str) (ps : List Str) (sp : Sp) : Prop where
  ex : ∃ f fd, FnG P w K mg base k f fd ps sp ∧ mg x = some (.ref f) ∧ PySem.W.keepIn K (.ref f) = true ∧ Binds K fd ps []
/-- where a def of the text stands behind the top -/
structure Fd (K : PySem.W.Frag) (mg : Str → Option Value) (x : Str) (st : Stmt) : Prop where
  ex : ∃ f fd, Fun K x x st f fd ∧ mg x = some (.ref f)
theorem Cl.mono {j k : Nat} {x : Str} {ps : List Str} {sp : Sp} (C : Cl P w K mg base j x ps sp) (h : j ≤ k) : Cl P w K mg base k x ps sp := by
  obtain ⟨f, fd, F, r⟩ := C.ex
  exact ⟨f, fd, F.mono h, r⟩
end
section
variable {X : Cx} {k : Nat} {x : Str} {ps : List Str} {sp : Sp} {e : Expr} {es : List Expr} {t : TA} {p pos : Pos}
theorem run_fnG {f : Addr} {fd : FuncData} {pins : List (Addr × Obj)} {σ : L2.St} {H : Hp} {s : Shared} {Q : VK} {us : List Value} {vs : List V} (F : FnG X.prog X.w X.K X.mg X.base k f fd ps sp) (hr : Room k X.A) (hgd : X.A.guards = some []) (hb : Binds X.K fd ps [])
    (I : L2.Inv X pins σ H s) (r : Vals vs us) (h : sp vs H Q E0) : wpAny (model X.prog X.w) X.A (call (.ref f) us) (EP X pins σ Q) X.xe s := by
  have hl : (us ++ []).length = ps.length := by rw [List.append_nil, ← r.length]; exact F.len _ _ _ h
  have hb2 := hb s us I.kIn hl
  rw [List.append_nil] at hb2
  apply wpAny_call
  refine codeAny_mono (F.run X.A X.stack s H ⟨us, []⟩ us vs Q hr hgd I.env0 hb2 r h) fun q s' hq => ?_
  match q, hq with
  | .error _, hq => exact hq.elim
  | .ok (.ret u), hq => exact I.after hq
  | .ok .next, hq => exact hq.elim
  | .ok .brk, hq => exact hq.elim
  | .ok .cont, hq => exact hq.elim
theorem pe_cl (C : Cl X.prog X.w X.K X.mg X.base k x ps sp) (hr : Room k X.A) (hgd : X.A.guards = some []) (hg : Gl X x) (ha : PA X (e :: es) t)
    (hdb : (x == ("__debug__" : Str)) = false := by decide) (he : starEach (e :: es) X.env = (false, eval e X.env) :: starEach es X.env := by rfl) (hpl : (backTo pos (starEach es X.env)).any (·.1) = false := by rfl) :
    PE X (.Call (.Name x p) (e :: es) [] pos) (tCall sp [] E0 t) := by
  obtain ⟨f, fd, F, hm, hk, hb⟩ := C.ex
  refine ⟨fun pins s σ H Q I h => ?_⟩
  apply wpAny_Call_Name_kw
  apply ld_glob I hg hm ?_ hdb
  refine PySem.W.callWith_K (h₀ := X.base) I.ok.mod.kin hk (thn (ha.run pos pins s σ H _ I h) fun us s1 h1 => ?_) he hpl
  obtain ⟨vs, H1, I1, r, q⟩ := h1
  rw [List.append_nil] at q
  exact ⟨I1.kIn, run_fnG F hr hgd hb I1 r q⟩
end
end Nz

/-! typed data, and the rules for it that gen.py names -/
namespace Nz
open PySem PySem.Spec PyProof.Rows L2 RZ

/-! ### encodings -/
abbrev eQ (r : Rat) : PyData := .tuple [.int r.num, .int (r.den : Int)]
abbrev eT {α : Type} (f : α → PyData) (l : List α) : PyData := .tuple (l.map f)
abbrev eL {α : Type} (f : α → PyData) (l : List α) : PyData := .list (l.map f)
abbrev eP {α β : Type} (f : α → PyData) (g : β → PyData) (p : α × β) : PyData := .tuple [f p.1, g p.2]
abbrev eP3 {α β γ : Type} (f : α → PyData) (g : β → PyData) (h : γ → PyData) (p : α × β × γ) : PyData := .tuple [f p.1, g p.2.1, h p.2.2]
abbrev eP4 {α β γ δ : Type} (f : α → PyData) (g : β → PyData) (h : γ → PyData) (k : δ → PyData) (p : α × β × γ × δ) : PyData := .tuple [f p.1, g p.2.1, h p.2.2.1, k p.2.2.2]
def eO {α : Type} (f : α → PyData) : Option α → PyData
  | none => .none
  | some a => f a
/-- an item at a place of any sign -/
def ixG {α : Type} [Inhabited α] (xs : List α) (i : Int) : α := (atI xs i).getD default
def InB (n : Nat) (i : Int) : Prop := -(n : Int) ≤ i ∧ i < n
theorem atI_ixG {α : Type} [Inhabited α] {xs : List α} {i : Int} (h : InB xs.length i) : atI xs i = some (ixG xs i) := by
  unfold ixG
  cases e : atI xs i with
  | some a => rfl
  | none =>
    exfalso
    unfold atI ixN at e
    obtain ⟨h1, h2⟩ := h
    by_cases h0 : 0 ≤ i
    · rw [if_pos h0, if_pos h2] at e
      rw [Option.bind_some, List.getElem?_eq_none_iff] at e
      omega
    · rw [if_neg h0, if_pos h1, Option.bind_some, List.getElem?_eq_none_iff] at e
      omega
theorem atI_map {α β : Type} (f : α → β) (xs : List α) (i : Int) : atI (xs.map f) i = (atI xs i).map f := by
  unfold atI
  rw [List.length_map]
  cases ixN xs.length i with
  | none => rfl
  | some j => rw [Option.bind_some, Option.bind_some, List.getElem?_map]
theorem ixG_nat {α : Type} [Inhabited α] {xs : List α} {j : Nat} {v : α} (h : xs[j]? = some v) : ixG xs (j : Int) = v := by
  unfold ixG; rw [atI_nat h]; rfl
theorem ixG_last {α : Type} [Inhabited α] (xs : List α) (v : α) : ixG (xs ++ [v]) (-1) = v := by
  unfold ixG; rw [atI_last]; rfl
def cutX {α : Type} (xs : List α) (lo hi : Option Int) : List α := (xs.drop (HT.sIx xs.length 0 lo)).take (HT.sIx xs.length xs.length hi - HT.sIx xs.length 0 lo)
theorem cutD_map {α : Type} (f : α → PyData) (xs : List α) (lo hi : Option Int) : cutD (xs.map f) lo hi = (cutX xs lo hi).map f := by
  unfold cutD cutX
  rw [List.length_map, List.map_take, List.map_drop]
def maxOf (xs : List Int) : Int := xs.foldl max (xs.headD 0)
def minOf (xs : List Int) : Int := xs.foldl min (xs.headD 0)
theorem foldl_max_ge (l : List Int) : ∀ a, a ≤ l.foldl max a ∧ ∀ y ∈ l, y ≤ l.foldl max a := by
  induction l with
  | nil => intro a; exact ⟨Int.le_refl _, fun y h => nomatch h⟩
  | cons x l ih =>
    intro a
    obtain ⟨h1, h2⟩ := ih (max a x)
    refine ⟨by show a ≤ l.foldl max (max a x); omega, fun y hy => ?_⟩
    show y ≤ l.foldl max (max a x)
    rcases List.mem_cons.mp hy with e | e
    · rw [e]; omega
    · exact h2 y e
theorem foldl_max_mem (l : List Int) : ∀ a, l.foldl max a = a ∨ l.foldl max a ∈ l := by
  induction l with
  | nil => intro a; exact .inl rfl
  | cons x l ih =>
    intro a
    show l.foldl max (max a x) = a ∨ l.foldl max (max a x) ∈ x :: l
    rcases ih (max a x) with h | h
    · rcases Int.le_total a x with q | q
      · exact .inr (by rw [h, Int.max_eq_right q]; exact List.mem_cons_self ..)
      · exact .inl (by rw [h, Int.max_eq_left q])
    · exact .inr (List.mem_cons_of_mem _ h)
theorem maxOf_mem {l : List Int} (h : 0 < l.length) : maxOf l ∈ l := by
  cases l with
  | nil => simp at h
  | cons x l =>
    unfold maxOf
    rcases foldl_max_mem (x :: l) x with e | e
    · show (x :: l).foldl max x ∈ _
      rw [e]; exact List.mem_cons_self ..
    · exact e
theorem maxOf_ge {l : List Int} {y : Int} (h : y ∈ l) : y ≤ maxOf l := (foldl_max_ge l _).2 y h
theorem foldl_min_le (l : List Int) : ∀ a, l.foldl min a ≤ a ∧ ∀ y ∈ l, l.foldl min a ≤ y := by
  induction l with
  | nil => intro a; exact ⟨Int.le_refl _, fun y h => nomatch h⟩
  | cons x l ih =>
    intro a
    obtain ⟨h1, h2⟩ := ih (min a x)
    refine ⟨by show l.foldl min (min a x) ≤ a; omega, fun y hy => ?_⟩
    show l.foldl min (min a x) ≤ y
    rcases List.mem_cons.mp hy with e | e
    · rw [e]; omega
    · exact h2 y e
theorem foldl_min_mem (l : List Int) : ∀ a, l.foldl min a = a ∨ l.foldl min a ∈ l := by
  induction l with
  | nil => intro a; exact .inl rfl
  | cons x l ih =>
    intro a
    show l.foldl min (min a x) = a ∨ l.foldl min (min a x) ∈ x :: l
    rcases ih (min a x) with h | h
    · rcases Int.le_total a x with q | q
      · exact .inl (by rw [h, Int.min_eq_left q])
      · exact .inr (by rw [h, Int.min_eq_right q]; exact List.mem_cons_self ..)
    · exact .inr (List.mem_cons_of_mem _ h)
theorem minOf_mem {l : List Int} (h : 0 < l.length) : minOf l ∈ l := by
  cases l with
  | nil => simp at h
  | cons x l =>
    unfold minOf
    rcases foldl_min_mem (x :: l) x with e | e
    · show (x :: l).foldl min x ∈ _
      rw [e]; exact List.mem_cons_self ..
    · exact e
theorem minOf_le {l : List Int} {y : Int} (h : y ∈ l) : minOf l ≤ y := (foldl_min_le l _).2 y h
/-! ### a product's and a quotient's sizes -/
theorem mul_l {i j : Int} (h : -(2 ^ 64) < i) (h2 : i < 2 ^ 64) : IntMulOk i j := IntMulOk.of_left (intBits_le_64 h h2)
theorem mul_r {i j : Int} (h : -(2 ^ 64) < j) (h2 : j < 2 ^ 64) : IntMulOk i j := IntMulOk.of_right (intBits_le_64 h h2)
theorem mul_b {i j : Int} {a b : Nat} (ha : i.natAbs < 2 ^ a) (hb : j.natAbs < 2 ^ b) (h : a + b ≤ 900000 := by decide) : IntMulOk i j := by
  have x : i.natAbs.log2 < a + 1 := by
    by_cases z : i.natAbs = 0
    · rw [z]; simp
    · have := (Nat.log2_lt z).mpr ha; omega
  have y : j.natAbs.log2 < b + 1 := by
    by_cases z : j.natAbs = 0
    · rw [z]; simp
    · have := (Nat.log2_lt z).mpr hb; omega
  exact L2.CMulW.ok (by unfold L2.CMulW; omega)
theorem div_small {i j : Int} (h : 0 < j) (h2 : j < 1073741824) : CDivG i j := ⟨h, PyProof.noPylong_small (by omega)⟩
theorem div_b {i j : Int} (h : 0 < j) (h2 : j.natAbs < 2 ^ 8999) : CDivG i j := ⟨h, PyProof.noPylong_of_log2 (by
  have := (Nat.log2_lt (show j.natAbs ≠ 0 by omega)).mpr h2
  omega)⟩

section
variable {c : Cz} {ρ ρ1 ρ2 ρ3 : List Sl} {ta tb te tx : TE} {t u : TT} {d d1 d2 d3 : PyData} {T : Tm} {H H' : Hp} {σ : L2.St}
theorem spP_len {K : PySem.W.Frag} {Rl : List PyData → PyData → Prop} {ps : List Str} (h : ∀ ds d, Rl ds d → ds.length = ps.length) : ∀ vs H Q, SpP K Rl vs H Q E0 → vs.length = ps.length := fun vs H Q ⟨S, ds, d, _, a, r, _⟩ => (dpa_length a).trans (h ds d r)
theorem ed_ite {α : Type} {e : α → PyData} {x y : α} {b : Bool} (h : Et c ρ t b ρ1) (h1 : b = true → Ed c ρ1 ta (e x) ρ2) (h2 : b = false → Ed c ρ1 tb (e y) ρ2) : Ed c ρ (tIf t ta tb) (e (if b = true then x else y)) ρ2 :=
  ed_if h (fun q => by rw [if_pos q]; exact h1 q) (fun q => by rw [if_neg (by rw [q]; decide)]; exact h2 q)
/-! #### == of typed data -/
theorem eqv_int (i j : Int) : PyData.eqv (.int i) (.int j) = decide (i = j) := by
  unfold PyData.eqv; by_cases h : i = j <;> simp [h]
theorem rat_ext {r q : Rat} (h : r.num = q.num) (h2 : (r.den : Int) = (q.den : Int)) : r = q := Rat.ext h (by omega)
theorem eqv_Q (r q : Rat) : PyData.eqv (eQ r) (eQ q) = decide (r = q) := by
  by_cases h : r = q
  · subst h; simp [PyData.eqv, PyData.eqvAll]
  · have : ¬ (r.num = q.num ∧ (r.den : Int) = (q.den : Int)) := fun z => h (rat_ext z.1 z.2)
    simp only [PyData.eqv, PyData.eqvAll, h, decide_false, Bool.and_true]
    by_cases e : r.num = q.num
    · have e2 : ¬ (r.den : Int) = (q.den : Int) := fun z => this ⟨e, z⟩
      simp only [e, beq_self_eq_true, Bool.true_and]
      exact beq_eq_false_iff_ne.mpr e2
    · rw [show (r.num == q.num) = false from beq_eq_false_iff_ne.mpr e, Bool.false_and]
theorem shaped_int (i : Int) : SeqAt.shaped (.int i) = true := rfl
theorem shaped_bool (b : Bool) : SeqAt.shaped (.bool b) = true := rfl
theorem shaped_Q (r : Rat) : SeqAt.shaped (eQ r) = true := rfl
theorem ed_eqI {i j : Int} (ha : Ed c ρ ta (.int i) ρ1) (hb : Ed c ρ1 tb (.int j) ρ2) : Ed c ρ (tOp (rEqD c.K) ta tb) (.bool (decide (i = j))) ρ2 := ed_is (ed_eq ha hb rfl rfl) (congrArg PyData.bool (eqv_int i j))
theorem ed_neI {i j : Int} (ha : Ed c ρ ta (.int i) ρ1) (hb : Ed c ρ1 tb (.int j) ρ2) : Ed c ρ (tOp (rNeD c.K) ta tb) (.bool (!decide (i = j))) ρ2 := ed_is (ed_ne ha hb rfl rfl) (congrArg (fun b => PyData.bool (!b)) (eqv_int i j))
theorem ed_eqQ {i j : Rat} (ha : Ed c ρ ta (eQ i) ρ1) (hb : Ed c ρ1 tb (eQ j) ρ2) : Ed c ρ (tOp (rEqD c.K) ta tb) (.bool (decide (i = j))) ρ2 := ed_is (ed_eq ha hb rfl rfl) (congrArg PyData.bool (eqv_Q i j))
theorem ed_neQ {i j : Rat} (ha : Ed c ρ ta (eQ i) ρ1) (hb : Ed c ρ1 tb (eQ j) ρ2) : Ed c ρ (tOp (rNeD c.K) ta tb) (.bool (!decide (i = j))) ρ2 := ed_is (ed_ne ha hb rfl rfl) (congrArg (fun b => PyData.bool (!b)) (eqv_Q i j))
theorem eqv_bool (i j : Bool) : PyData.eqv (.bool i) (.bool j) = decide (i = j) := by cases i <;> cases j <;> rfl
theorem ed_eqB {i j : Bool} (ha : Ed c ρ ta (.bool i) ρ1) (hb : Ed c ρ1 tb (.bool j) ρ2) : Ed c ρ (tOp (rEqD c.K) ta tb) (.bool (decide (i = j))) ρ2 := ed_is (ed_eq ha hb rfl rfl) (congrArg PyData.bool (eqv_bool i j))
theorem ed_neB {i j : Bool} (ha : Ed c ρ ta (.bool i) ρ1) (hb : Ed c ρ1 tb (.bool j) ρ2) : Ed c ρ (tOp (rNeD c.K) ta tb) (.bool (!decide (i = j))) ρ2 := ed_is (ed_ne ha hb rfl rfl) (congrArg (fun b => PyData.bool (!b)) (eqv_bool i j))
/-! #### lists and tuples of typed data -/
theorem ed_lenTX {α : Type} {f : α → PyData} {l : List α} (h : Ed c ρ te (.tuple (l.map f)) ρ1) : Ed c ρ (tCB (rLenS c.K) (tCons te tNil)) (.int (l.length : Int)) ρ1 := ed_is (ed_lenT h) (by rw [List.length_map])
theorem ed_lenLX {α : Type} {f : α → PyData} {l : List α} (h : Ed c ρ te (.list (l.map f)) ρ1) : Ed c ρ (tCB (rLenS c.K) (tCons te tNil)) (.int (l.length : Int)) ρ1 := ed_is (ed_lenL h) (by rw [List.length_map])
theorem ix_some {α : Type} [Inhabited α] {f : α → PyData} {l : List α} {i : Int} (h : InB l.length i) : atI (l.map f) i = some (f (ixG l i)) := by rw [atI_map, atI_ixG h]; rfl
theorem ed_ixTX {α : Type} [Inhabited α] {f : α → PyData} {l : List α} {i : Int} (ha : Ed c ρ ta (.tuple (l.map f)) ρ1) (hb : Ed c ρ1 tb (.int i) ρ2) (h : InB l.length i) : Ed c ρ (tOp (rIxT c.K) ta tb) (f (ixG l i)) ρ2 := ed_ixT ha hb (ix_some h)
theorem ed_ixLX {α : Type} [Inhabited α] {f : α → PyData} {l : List α} {i : Int} (ha : Ed c ρ ta (.list (l.map f)) ρ1) (hb : Ed c ρ1 tb (.int i) ρ2) (h : InB l.length i) : Ed c ρ (tOp (rIxL c.K) ta tb) (f (ixG l i)) ρ2 := ed_ixL ha hb (ix_some h)
theorem ed_ixMX {α : Type} [Inhabited α] {f : α → PyData} {xs : List α} {i : Int} {j : Nat} {l : Bool} {a : Addr} (hb : Ed c ρ tb (.int i) ρ1) (ha : ρ1[j]? = some (.mu l a (.lst (xs.map f)))) (ha0 : ∃ l o, ρ[j]? = some (.mu l a o)) (h : InB xs.length i) :
    Ed c ρ (tOp (rIxL c.K) (tVar j) tb) (f (ixG xs i)) ρ1 := ed_ixM hb ha ha0 (ix_some h)
theorem ed_sliceT {α : Type} {f : α → PyData} {l : List α} {tl th : TO} {lo hi : Option Int} (ha : Ed c ρ ta (.tuple (l.map f)) ρ1) (hl : Eo c ρ1 tl lo ρ2) (hh : Eo c ρ2 th hi ρ3) : Ed c ρ (tSl (rSlF c.K) ta tl th) (.tuple ((cutX l lo hi).map f)) ρ3 := fun T σ H W Q q =>
  ha T σ H W _ fun v H1 W1 => hl _ σ H1 W1 _ fun H2 W2 => hh _ σ H2 W2 _ fun H3 W3 => by
    obtain ⟨a, xs, rfl, hs, h2⟩ := dp_tup W3.dp
    have hx := dpa_length h2
    have hc := cut_dp h2 lo hi
    rw [cutD_map] at hc
    refine ⟨a, xs, rfl, (ex_p (hide_ex _ _) hs).sq, fun hw => ?_, fun _ p o z hp => q _ _ (tup_new W3.pop hc z hp)⟩
    have e : cutX l lo hi = l := by
      rw [List.length_map] at hx
      rw [hx] at hw
      unfold cutX
      rw [hw.1, hw.2, List.drop_zero, Nat.sub_zero, List.take_length]
    rw [e] at q
    exact q _ H3 W3
theorem el_sliceX {α : Type} {f : α → PyData} {l : List α} {tl th : TO} {lo hi : Option Int} (ha : Ed c ρ ta (.list (l.map f)) ρ1) (hl : Eo c ρ1 tl lo ρ2) (hh : Eo c ρ2 th hi ρ3) : EdL c ρ (tSl (rSlL c.K) ta tl th) ((cutX l lo hi).map f) ρ3 :=
  el_is (el_slice ha hl hh) (cutD_map f l lo hi)
theorem ed_revT {α : Type} {f : α → PyData} {l : List α} (h : Ed c ρ te (.tuple (l.map f)) ρ1) : Ed c ρ (tRevT c.K te) (.tuple (l.reverse.map f)) ρ1 := fun T σ H W Q q => h T σ H W _ fun v H1 W1 => by
  obtain ⟨a, xs, rfl, hs, h2⟩ := dp_tup W1.dp
  refine ⟨a, xs, rfl, (ex_p (hide_ex _ _) hs).sq, fun p o z hp => q _ _ (tup_new W1.pop ?_ z hp)⟩
  rw [List.map_reverse]
  exact dpa_rev h2
theorem el_revL {α : Type} {f : α → PyData} {l : List α} (h : Ed c ρ te (.list (l.map f)) ρ1) : EdL c ρ (tRevL c.K te) (l.reverse.map f) ρ1 := fun T σ H W Q q => h T σ H W _ fun v H1 W1 => by
  obtain ⟨a, xs, rfl, hs, h2⟩ := dp_lst W1.dp
  refine ⟨a, xs, rfl, ex_l (hide_ex _ _) hs, fun p hp => ?_⟩
  have h3 := dpa_rev h2
  rw [← List.map_reverse] at h3
  obtain ⟨x1, x2, x3, x4⟩ := el_new W1.pop h3 hp
  exact q p _ x1 x2 x3 x4
theorem ed_catT {α : Type} {f : α → PyData} {l m : List α} (ha : Ed c ρ ta (.tuple (l.map f)) ρ1) (hb : Ed c ρ1 tb (.tuple (m.map f)) ρ2) (hz : l.length + m.length ≤ 100000) : Ed c ρ (tOp (rCatF c.K) ta tb) (.tuple ((l ++ m).map f)) ρ2 :=
  ed_op ha hb fun T σ H x y W hx hy Q q => by
    obtain ⟨a, xs, rfl, hs, h2⟩ := dp_tup hx
    obtain ⟨b, ys, rfl, hs', h3⟩ := dp_tup hy
    have lx := dpa_length h2
    have ly := dpa_length h3
    rw [List.length_map] at lx ly
    refine ⟨a, b, xs, ys, rfl, rfl, (ex_p (hide_ex _ _) hs).sq, (ex_p (hide_ex _ _) hs').sq, ?_, fun e => ?_, fun _ e => ?_, fun _ _ p o z hp => q _ _ (tup_new W ?_ z hp)⟩
    · rw [lx, ly]; exact Nat.le_trans hz (by decide)
    · have : l = [] := by rw [e] at lx; exact List.length_eq_zero_iff.mp lx.symm
      subst this
      exact q _ H (W.push hy)
    · have : m = [] := by rw [e] at ly; exact List.length_eq_zero_iff.mp ly.symm
      subst this
      rw [List.append_nil] at q
      exact q _ H (W.push hx)
    · rw [List.map_append]; exact dpa_append h2 h3
theorem el_cat {α : Type} {f : α → PyData} {l m : List α} (ha : Ed c ρ ta (.list (l.map f)) ρ1) (hb : Ed c ρ1 tb (.list (m.map f)) ρ2) (hz : l.length + m.length ≤ 100000) : EdL c ρ (tOp (rCatG c.K) ta tb) ((l ++ m).map f) ρ2 := fun T σ H W Q q =>
  ha T σ H W _ fun v H1 W1 => hb _ σ H1 W1 _ fun w H2 W2 => by
    obtain ⟨a, xs, rfl, hs, h2⟩ := dp_lst W2.pop.dp
    obtain ⟨b, ys, rfl, hs', h3⟩ := dp_lst W2.dp
    have lx := dpa_length h2
    have ly := dpa_length h3
    rw [List.length_map] at lx ly
    refine ⟨a, b, xs, ys, rfl, rfl, ex_l (hide_ex _ _) hs, ex_l (hide_ex _ _) hs', by rw [lx, ly]; exact Nat.le_trans hz (by decide), fun p hp => ?_⟩
    have h4 := dpa_append h2 h3
    rw [← List.map_append] at h4
    obtain ⟨x1, x2, x3, x4⟩ := el_new W2.pop.pop h4 hp
    exact q p _ x1 x2 x3 x4
/-- [..] * n -/
theorem el_rep {α : Type} {f : α → PyData} {l : List α} {k : Int} (ha : EdL c ρ ta (l.map f) ρ1) (hb : ∀ S B, Ed (c.at S B) ρ1 tb (.int k) ρ1) (hk : -1000000 ≤ k ∧ k ≤ 100000 ∧ l.length * k.toNat ≤ 100000) : EdL c ρ (tOp rRep ta tb) ((List.replicate k.toNat l).flatten.map f) ρ1 := fun T σ H W Q q =>
  ha T σ H W _ fun p H1 hB hn mo W1 => by
    obtain ⟨xs, hx, dx⟩ := mo
    have hs := W.sub
    have nS : p ∉ c.S0 := fun m => hn (List.mem_append_left _ m)
    have W2 : Wd (c.at (p :: c.S0) (upd c.B p (.lst xs))) (xs.zip (l.map f) ++ T) H1 σ ρ1 := (W1.pin hx hB hs nS).pushAll dx
    refine hb _ _ _ σ H1 W2 _ fun v H2 W3 => ?_
    have lx := dpa_length dx
    obtain ⟨h2, W4⟩ := W3.unpin hB (fun m => nS (hs p m))
    have dx2 := Wd.allOf (T := T) lx W4.pop
    have ez : xs.length * k.toNat ≤ 100000 := by rw [lx, List.length_map]; exact hk.2.2
    refine ⟨p, k, xs, rfl, dp_int W4.dp, h2, by omega, by omega, Nat.le_trans ez (by decide), fun r hr => ?_⟩
    have W5 : Wd c T H2 σ ρ1 := (W4.pop.tmps fun q hq => List.mem_append_right _ hq).unhide hs
    have e3 : Ex (hide (hid (c.hidden p) ρ1) H2) (hide (hid c ρ1) H2) := hide_mono fun a o n h => ⟨fun m => n (List.mem_cons_of_mem _ m), h⟩
    have d3 := dpa_rep (dpam e3 dx2) k.toNat
    have em : (List.replicate k.toNat (l.map f)).flatten = (List.replicate k.toNat l).flatten.map f := by rw [List.map_flatten, List.map_replicate]
    rw [em] at d3
    obtain ⟨x1, x2, x3, x4⟩ := el_new W5 d3 hr
    exact q r _ x1 x2 x3 x4
theorem ed_sumT {l : List Int} (h : Ed c ρ te (.tuple (l.map .int)) ρ1) : Ed c ρ (tCB (rSumT c.K) (tCons te tNil)) (.int l.sum) ρ1 := fun T σ H W Q q => h T σ H W _ fun v H1 W1 => by
  obtain ⟨a, xs, rfl, hs, h2⟩ := dp_tup W1.dp
  have := dpaInts h2
  subst this
  exact ⟨a, l, rfl, .inl (ex_p (hide_ex _ _) hs).sq, q _ H1 (W1.pop.push (.int _))⟩
theorem ed_sumL {l : List Int} (h : Ed c ρ te (.list (l.map .int)) ρ1) : Ed c ρ (tCB (rSumT c.K) (tCons te tNil)) (.int l.sum) ρ1 := fun T σ H W Q q => h T σ H W _ fun v H1 W1 => by
  obtain ⟨a, xs, rfl, hs, h2⟩ := dp_lst W1.dp
  have := dpaInts h2
  subst this
  exact ⟨a, l, rfl, .inr (ex_l (hide_ex _ _) hs), q _ H1 (W1.pop.push (.int _))⟩
theorem max_un {l : List Int} {m : Int} (h1 : m ∈ l) (h2 : ∀ y, y ∈ l → y ≤ m) : m = maxOf l := by
  have := maxOf_ge h1
  have := h2 _ (maxOf_mem (List.length_pos_of_mem h1))
  omega
theorem min_un {l : List Int} {m : Int} (h1 : m ∈ l) (h2 : ∀ y, y ∈ l → m ≤ y) : m = minOf l := by
  have := minOf_le h1
  have := h2 _ (minOf_mem (List.length_pos_of_mem h1))
  omega
theorem ed_maxT {l : List Int} (h : Ed c ρ te (.tuple (l.map .int)) ρ1) (hl : 0 < l.length) : Ed c ρ (tCB (rMaxT c.K) (tCons te tNil)) (.int (maxOf l)) ρ1 := fun T σ H W Q q => h T σ H W _ fun v H1 W1 => by
  obtain ⟨a, xs, rfl, hs, h2⟩ := dp_tup W1.dp
  have := dpaInts h2
  subst this
  exact ⟨a, l, rfl, .inl (ex_p (hide_ex _ _) hs).sq, hl, fun m h3 h4 => by rw [max_un h3 h4]; exact q _ H1 (W1.pop.push (.int _))⟩
theorem ed_maxL {l : List Int} (h : Ed c ρ te (.list (l.map .int)) ρ1) (hl : 0 < l.length) : Ed c ρ (tCB (rMaxT c.K) (tCons te tNil)) (.int (maxOf l)) ρ1 := fun T σ H W Q q => h T σ H W _ fun v H1 W1 => by
  obtain ⟨a, xs, rfl, hs, h2⟩ := dp_lst W1.dp
  have := dpaInts h2
  subst this
  exact ⟨a, l, rfl, .inr (ex_l (hide_ex _ _) hs), hl, fun m h3 h4 => by rw [max_un h3 h4]; exact q _ H1 (W1.pop.push (.int _))⟩
theorem ed_minT {l : List Int} (h : Ed c ρ te (.tuple (l.map .int)) ρ1) (hl : 0 < l.length) : Ed c ρ (tCB (rMinT c.K) (tCons te tNil)) (.int (minOf l)) ρ1 := fun T σ H W Q q => h T σ H W _ fun v H1 W1 => by
  obtain ⟨a, xs, rfl, hs, h2⟩ := dp_tup W1.dp
  have := dpaInts h2
  subst this
  exact ⟨a, l, rfl, .inl (ex_p (hide_ex _ _) hs).sq, hl, fun m h3 h4 => by rw [min_un h3 h4]; exact q _ H1 (W1.pop.push (.int _))⟩
theorem ed_minL {l : List Int} (h : Ed c ρ te (.list (l.map .int)) ρ1) (hl : 0 < l.length) : Ed c ρ (tCB (rMinT c.K) (tCons te tNil)) (.int (minOf l)) ρ1 := fun T σ H W Q q => h T σ H W _ fun v H1 W1 => by
  obtain ⟨a, xs, rfl, hs, h2⟩ := dp_lst W1.dp
  have := dpaInts h2
  subst this
  exact ⟨a, l, rfl, .inr (ex_l (hide_ex _ _) hs), hl, fun m h3 h4 => by rw [min_un h3 h4]; exact q _ H1 (W1.pop.push (.int _))⟩
theorem ed_max2 {i j : Int} (ha : Ed c ρ ta (.int i) ρ1) (hb : Ed c ρ1 tb (.int j) ρ2) : Ed c ρ (tCB (fun xs H Q => ∃ i j, xs = [.int i, .int j] ∧ Q (.int (if j > i then j else i)) H) (tCons ta (tCons tb tNil))) (.int (if j > i then j else i)) ρ2 := fun T σ H W Q q =>
  ha T σ H W _ fun v H1 W1 => hb _ σ H1 W1 _ fun w H2 W2 => ⟨i, j, by rw [dp_int W2.pop.dp, dp_int W2.dp], q _ H2 (W2.pop.pop.push (.int _))⟩
theorem ed_min2 {i j : Int} (ha : Ed c ρ ta (.int i) ρ1) (hb : Ed c ρ1 tb (.int j) ρ2) : Ed c ρ (tCB (fun xs H Q => ∃ i j, xs = [.int i, .int j] ∧ Q (.int (if j < i then j else i)) H) (tCons ta (tCons tb tNil))) (.int (if j < i then j else i)) ρ2 := fun T σ H W Q q =>
  ha T σ H W _ fun v H1 W1 => hb _ σ H1 W1 _ fun w H2 W2 => ⟨i, j, by rw [dp_int W2.pop.dp, dp_int W2.dp], q _ H2 (W2.pop.pop.push (.int _))⟩
theorem ed_all {l : List Bool} (h : Ed c ρ te (.list (l.map .bool)) ρ1) : Ed c ρ (tCB (rAll c.K) (tCons te tNil)) (.bool (l.all id)) ρ1 := fun T σ H W Q q => h T σ H W _ fun v H1 W1 => by
  obtain ⟨a, xs, rfl, hs, h2⟩ := dp_lst W1.dp
  have := dpaBools h2
  subst this
  exact ⟨a, l, rfl, ex_l (hide_ex _ _) hs, q _ H1 (W1.pop.push (.bl _))⟩
theorem ed_any {l : List Bool} (h : Ed c ρ te (.list (l.map .bool)) ρ1) : Ed c ρ (tCB (rAny c.K) (tCons te tNil)) (.bool (l.any id)) ρ1 := fun T σ H W Q q => h T σ H W _ fun v H1 W1 => by
  obtain ⟨a, xs, rfl, hs, h2⟩ := dp_lst W1.dp
  have := dpaBools h2
  subst this
  exact ⟨a, l, rfl, ex_l (hide_ex _ _) hs, q _ H1 (W1.pop.push (.bl _))⟩
/-! #### isinstance, repr -/
def tyD : PyData → String
  | .none => "NoneType"
  | .bool _ => "bool"
  | .int _ => "int"
  | .str _ => "str"
  | .list _ => "list"
  | .tuple _ => "tuple"
  | .dict _ => "dict"
theorem tyx_of {v : V} (h : Dz c.K H v d) : TyX c.K H v (.type (tyD d)) := by
  cases h with
  | non => exact .base .non
  | bl b => exact .base (.bl b)
  | int i => exact .base (.int i)
  | str x => exact .base (.str x)
  | lst hs ha =>
    rcases hs with (hs | ⟨o, hs⟩) | ⟨o, its, n, h1, h2, _⟩
    · exact .base (.lst hs)
    · exact .base (.frz hs)
    · exact .kList h1 h2
  | tup hs ha =>
    rcases hs with ⟨o, hs, _⟩ | ⟨o, its, n, h1, h2, _⟩
    · exact .fTuple hs
    · exact .kTuple h1 h2
theorem ed_isi {n : String} {b : Bool} (h : Ed c ρ te d ρ1) (hk : kitB (tyD d) n = some b) : Ed c ρ (tCB (rIsi c.K) (tCons te (tCons (tC (.ty n)) tNil))) (.bool b) ρ1 := fun T σ H W Q q => h T σ H W _ fun v H1 W1 =>
  ⟨v, .ty n, _, _, b, rfl, .ty n, tyx_of (dpm (hide_ex _ _) W1.dp), kit_ty hk, q _ H1 (W1.pop.push (.bl _))⟩
def isi_int : PyData → Bool
  | .int _ => true
  | .bool _ => true
  | _ => false
def isi_bool : PyData → Bool
  | .bool _ => true
  | _ => false
theorem kit_int (d : PyData) : kitB (tyD d) "int" = some (isi_int d) := by
  cases d
  · exact (show kitB "NoneType" "int" = some false by decide +kernel)
  · exact (show kitB "bool" "int" = some true by decide +kernel)
  · exact (show kitB "int" "int" = some true by decide +kernel)
  · exact (show kitB "str" "int" = some false by decide +kernel)
  · exact (show kitB "list" "int" = some false by decide +kernel)
  · exact (show kitB "tuple" "int" = some false by decide +kernel)
  · exact (show kitB "dict" "int" = some false by decide +kernel)
theorem kit_bool (d : PyData) : kitB (tyD d) "bool" = some (isi_bool d) := by
  cases d
  · exact (show kitB "NoneType" "bool" = some false by decide +kernel)
  · exact (show kitB "bool" "bool" = some true by decide +kernel)
  · exact (show kitB "int" "bool" = some false by decide +kernel)
  · exact (show kitB "str" "bool" = some false by decide +kernel)
  · exact (show kitB "list" "bool" = some false by decide +kernel)
  · exact (show kitB "tuple" "bool" = some false by decide +kernel)
  · exact (show kitB "dict" "bool" = some false by decide +kernel)
theorem ed_isiD {n : String} {b : Bool} (h : Ed c ρ te d ρ1) (hk : kitB (tyD d) n = some b) : Ed c ρ (tCB (rIsi c.K) (tCons te (tCons (tC (.ty n)) tNil))) (.bool b) ρ1 := ed_isi h hk
theorem ed_repr (h : Ed c ρ te d ρ1) (hs : showOk d) : Ed c ρ (tCB (rRepr c.K) (tCons te tNil)) (.str d.shown) ρ1 := fun T σ H W Q q => h T σ H W _ fun v H1 W1 => ⟨v, d, rfl, dz_dp _ _ (dpm (hide_ex _ _) W1.dp), hs, q _ H1 (W1.pop.push (.str _))⟩
theorem et_truB {b : Bool} (h : Ed c ρ te (.bool b) ρ1) : Et c ρ (fun σ H Q => te σ H fun x H' => ∃ k, TruV c.K x H' k ∧ Q k H') b ρ1 := et_is (et_tru h) rfl
theorem et_truI {i : Int} (h : Ed c ρ te (.int i) ρ1) : Et c ρ (fun σ H Q => te σ H fun x H' => ∃ k, TruV c.K x H' k ∧ Q k H') (i != 0) ρ1 := et_is (et_tru h) rfl
theorem et_truL {α : Type} {f : α → PyData} {l : List α} (h : Ed c ρ te (.list (l.map f)) ρ1) : Et c ρ (fun σ H Q => te σ H fun x H' => ∃ k, TruV c.K x H' k ∧ Q k H') (!l.isEmpty) ρ1 := et_is (et_tru h) (by show (!(l.map f).isEmpty) = _; rw [List.isEmpty_map])
theorem et_truT {α : Type} {f : α → PyData} {l : List α} (h : Ed c ρ te (.tuple (l.map f)) ρ1) : Et c ρ (fun σ H Q => te σ H fun x H' => ∃ k, TruV c.K x H' k ∧ Q k H') (!l.isEmpty) ρ1 := et_is (et_tru h) (by show (!(l.map f).isEmpty) = _; rw [List.isEmpty_map])
/-! #### chains as tests -/
theorem et_chain {b : Bool} (h : Ed c ρ te (.bool b) ρ1) : Et c ρ (tTest te) b ρ1 := et_test h
theorem et_truM {j : Nat} {l : Bool} {a : Addr} {α : Type} {f : α → PyData} {xs : List α} (h : ρ[j]? = some (.mu l a (.lst (xs.map f)))) : Et c ρ (fun σ H Q => tVar j σ H fun x H' => ∃ k, TruV c.K x H' k ∧ Q k H') (!xs.isEmpty) ρ := fun T σ H W Q q => by
  obtain ⟨h0, _, ys, h1, h2⟩ := W.ok j _ h
  refine ⟨.ref a, h0, !xs.isEmpty, .inl ⟨ys, sq_of h1, ?_⟩, q H W⟩
  rw [isEmpty_dp h2, List.isEmpty_map]
/-! #### walks -/
theorem ei_listX {α : Type} {f : α → PyData} {l : List α} (h : Ed c ρ te (.list (l.map f)) ρ1) : Ei c ρ (iList c.K te) (l.map fun x => Itm.hard (f x)) ρ1 := by
  have := ei_list h
  rw [hards, List.map_map] at this
  exact this
theorem ei_tupX {α : Type} {f : α → PyData} {l : List α} (h : Ed c ρ te (.tuple (l.map f)) ρ1) : Ei c ρ (iTup c.K te) (l.map fun x => Itm.hard (f x)) ρ1 := by
  have := ei_tup h
  rw [hards, List.map_map] at this
  exact this
theorem ei_enumX {α : Type} {f : α → PyData} {l : List α} (h : Ed c ρ te (.list (l.map f)) ρ1) : Ei c ρ (iEnum c.K (tCons te tNil)) (l.zipIdx.map fun p => Itm.soft [PyData.int (p.2 : Int), f p.1]) ρ1 := by
  have := ei_enum h
  unfold enumD at this
  rw [List.zipIdx_map, List.map_map] at this
  exact this
theorem zipD_map {α β : Type} (f : α → PyData) (g : β → PyData) (l : List α) (m : List β) : zipD (l.map f) (m.map g) = (l.zip m).map fun p => Itm.soft [f p.1, g p.2] := by
  unfold zipD
  rw [List.zipWith_map, List.zip, List.map_zipWith]
theorem ei_zipLX {α β : Type} {f : α → PyData} {g : β → PyData} {l : List α} {m : List β} (h : Ed c ρ te (.list (l.map f)) ρ1) (h2 : Ed c ρ1 tb (.list (m.map g)) ρ2) : Ei c ρ (iZipA c.K (tCons te (tCons tb tNil))) ((l.zip m).map fun p => Itm.soft [f p.1, g p.2]) ρ2 := by
  have := ei_zip h h2
  rw [zipD_map] at this
  exact this
theorem ei_zipTX {α β : Type} {f : α → PyData} {g : β → PyData} {l : List α} {m : List β} (h : Ed c ρ te (.tuple (l.map f)) ρ1) (h2 : Ed c ρ1 tb (.tuple (m.map g)) ρ2) : Ei c ρ (iZipA c.K (tCons te (tCons tb tNil))) ((l.zip m).map fun p => Itm.soft [f p.1, g p.2]) ρ2 := by
  have := ei_zipT h h2
  rw [zipD_map] at this
  exact this
def rngX (lo hi : Int) : List Int := (List.range (hi - lo).toNat).map fun (i : Nat) => lo + (i : Int)
theorem ei_rngX2 {lo n : Int} (h : Ed c ρ te (.int lo) ρ1) (h2 : Ed c ρ1 tb (.int n) ρ2) (hn : (-4000000000 ≤ lo ∧ lo ≤ 4000000000) ∧ -4000000000 ≤ n ∧ n ≤ 4000000000) : Ei c ρ (iRng2 (tCons te (tCons tb tNil))) ((rngX lo n).map fun (i : Int) => Itm.hard (PyData.int i)) ρ2 := by
  have := ei_rng2 h h2 hn
  unfold hards rngD at this
  unfold rngX
  rw [List.map_map] at this ⊢
  exact this
/-! #### comprehensions by typed items -/
theorem el_lcAX {α β : Type} {wi : TI} {g : TG} {vs : List Nat} {xs : List α} {ea : α → Itm} {enc : β → PyData} {fb : α → β} (h : Ei c ρ wi (xs.map ea) ρ1) (hsz : xs.length ≤ 100000) (hvs : ∀ j ∈ vs, ρ1[j]? = some .no)
    (turn : ∀ (S : List Addr) (B : Hp) (x : α), x ∈ xs → ∃ ρa, Nz.wipeS ρa vs = ρ1 ∧ Eg (c.at S B) g (ea x) ρ1 ρa vs ∧ Ed (c.at S B) ρa te (enc (fb x)) ρa) :
    EdL c ρ (tLc wi g tYes te vs) ((xs.map fb).map enc) ρ1 := el_is (el_lcA xs ea (fun x => enc (fb x)) h hsz hvs turn) (by rw [List.map_map]; rfl)
theorem el_lcPX {α β : Type} {wi : TI} {g : TG} {tt : TT} {vs : List Nat} {xs : List α} {ea : α → Itm} {p : α → Bool} {enc : β → PyData} {fb : α → β} (h : Ei c ρ wi (xs.map ea) ρ1) (hsz : xs.length ≤ 100000) (hvs : ∀ j ∈ vs, ρ1[j]? = some .no)
    (turn : ∀ (S : List Addr) (B : Hp) (x : α), x ∈ xs → ∃ ρa, Nz.wipeS ρa vs = ρ1 ∧ Eg (c.at S B) g (ea x) ρ1 ρa vs ∧ Et (c.at S B) ρa tt (p x) ρa ∧ (p x = true → Ed (c.at S B) ρa te (enc (fb x)) ρa)) :
    EdL c ρ (tLc wi g tt te vs) (((xs.filter p).map fb).map enc) ρ1 := el_is (el_lcP xs ea p (fun x => enc (fb x)) h hsz hvs turn) (by rw [List.map_map]; rfl)
/-! #### statements by typed lists -/
theorem le_rfl {ρ ρ' : List Sl} (e : ρ = ρ') : Le ρ ρ' := e ▸ Le.refl ρ
theorem le_frzX {ρ ρ' : List Sl} {a : Addr} {ds es : List PyData} (e : ds = es) (t : Le ρ ρ') : Le (.mu true a (.lst ds) :: ρ) (.da (.list es) :: ρ') := by subst e; exact le_frz t
variable {D : Ends} {ts tu : TS} {g : TG} {nx bk ct : L2.St → Hp → Prop} {rt : VK}
theorem ixN_nn {n : Nat} {i : Int} (h : 0 ≤ i ∧ i < n) : ixN n i = some i.toNat := by unfold ixN; rw [if_pos h.1, if_pos h.2]
theorem s_setLX {α : Type} {f : α → PyData} {i : Nat} {l : Bool} {a : Addr} {xs : List α} {x : α} {j : Int} (h : Ed c ρ te (f x) ρ1) (hj : Ed c ρ1 tb (.int j) ρ2) (h0 : ∃ l o, ρ1[i]? = some (.mu l a o)) (ha : ρ2[i]? = some (.mu l a (.lst (xs.map f)))) (hn : 0 ≤ j ∧ j < xs.length)
    (k : Sk c T (ρ2.set i (.mu l a (.lst ((xs.set j.toNat x).map f)))) nx) : Ss c T ρ (tAsg te (gSub (tVar i) tb rSetL)) ⟨nx, rt, bk, ct⟩ :=
  s_setL h hj h0 ha (n := j.toNat) (ixN_nn (by rw [List.length_map]; exact hn)) (by rw [← List.map_set]; exact k)
/-- a op= with what C asks -/
theorem s_augC {C : Int → Int → Prop} {i : Nat} {f : Int → Int → Int} {a b : Int} (hx : ρ[i]? = some (.da (.int a))) (h : Ed c ρ te (.int b) ρ) (hc : C a b) (k : Sk c T (ρ.set i (.da (.int (f a b)))) nx) : Ss c T ρ (tAug i te (rI C fun i j => .int (f i j))) ⟨nx, rt, bk, ct⟩ := fun σ H W => by
  obtain ⟨v, e, dp⟩ := W.ok i _ hx
  refine ⟨v, e, h T σ H W _ fun w H1 W1 => ⟨a, b, dp_int dp, dp_int W1.dp, hc, ?_⟩⟩
  exact k _ _ (W1.pop.setD i (.int _))
end
end Nz

/-! methods of plain tuples -/
namespace Nz
open PySem PySem.Spec PyProof.Rows L2 RZ
section
variable {X : Cx} {o e : Expr} {es : List Expr} {to : TE} {t : TA} {name : Str} {apos cpos : Pos} {id : String} {r : V → List V → Hp → VK → Prop}
def tBMT (K : PySem.W.Frag) (r : V → List V → Hp → VK → Prop) (to : TE) (t : TA) : TE := fun σ H Q => to σ H fun x H1 => (∃ p xs, x = .ref p ∧ Pt K H1 p xs) ∧ t σ H1 fun xs H2 => r x xs H2 Q
theorem pt_is {pins : List (Addr × Obj)} {σ : L2.St} {H : Hp} {s : Shared} {x : V} {v : Value} (I : Inv X pins σ H s) (rv : RelV x v) (h : ∃ p xs, x = .ref p ∧ Pt X.K H p xs) :
    s.TypeIs v "tuple" ∧ ∀ a, v = .ref a → ∃ ob, s.heap.get? a = some ob ∧ ob.dict = none := by
  obtain ⟨p, xs, rfl, h⟩ := h
  cases rv
  rcases h with ⟨o, h, z⟩ | ⟨o, its, n, h1, h2, h3, h4, h5, h6⟩
  · have e := I.hok p _ h
    obtain ⟨e1, e2⟩ := e
    obtain ⟨hz, its, rr, ip⟩ := e2
    obtain ⟨o', e', hc, hd⟩ := ip
    have : o = o' := by rw [e1] at e'; exact Option.some.inj e'
    subst this
    refine ⟨⟨o, e1, hc⟩, fun a q => ?_⟩
    cases q
    exact ⟨o, e1, z⟩
  · refine ⟨⟨o, I.kIn p o h1, h2⟩, fun a q => ?_⟩
    cases q
    exact ⟨o, I.kIn p o h1, h3⟩
theorem pe_bmT (slot : Slot "tuple" name id) (hty : typeOf (.builtin id) = pure (.type "method_descriptor")) (hm : MtR X id r) (ho : PE X o to) (ha : PA X (e :: es) t)
    (hbase : attributeBase o name X.env (eval o X.env) = eval o X.env := by rfl)
    (hfew : ((backTo cpos (starEach (e :: es) X.env)).all (fun x => !x.1) && (backToKw cpos (keywordEach [] X.env)).all (fun x => x.1.isSome)
      && decide ((e :: es).length + ([] : List Keyword).length + (if ([] : List Keyword).isEmpty then 0 else 1) < 30)) = true := by rfl)
    (hline : (apos.endLine == cpos.line) = true := by rfl) (hs : starEach (e :: es) X.env = (false, eval e X.env) :: starEach es X.env := by rfl) (hplain : (backTo cpos (starEach es X.env)).any (·.1) = false := by rfl) :
    PE X (.Call (.Attribute o name apos) (e :: es) [] cpos) (tBMT X.K r to t) := by
  refine ⟨fun pins s σ H Q I h => ?_⟩
  refine wpAny_Call_method_late hbase hfew hline rfl (thn (ho.run pins s σ H _ I h) fun v s1 ⟨x, H1, I1, r1, ty, q1⟩ => ?_)
  obtain ⟨h1, h2⟩ := pt_is I1 r1 ty
  refine ⟨"tuple", id, PySem.F.plainAttrs_tuple, slot, hty, h1, h2, ?_⟩
  have hA := ha.run cpos pins s1 σ H1 _ I1 q1
  rw [hs] at hA ⊢
  refine Calls.callWith_builtin (by show (false || (backTo cpos (starEach es X.env)).any (·.1)) = false; rw [hplain] <;> rfl) (Calls.evalArgs_plain ?_)
  exact thn hA fun us s2 ⟨vs, H2, I2, r2, q2⟩ => hm pins s2 σ H2 x vs v us Q I2 r1 r2 q2
/-- the same, where X's own K is told apart -/
theorem pe_bmTK {K : PySem.W.Frag} (slot : Slot "tuple" name id) (hty : typeOf (.builtin id) = pure (.type "method_descriptor")) (hm : MtR X id r) (ho : PE X o to) (ha : PA X (e :: es) t) (hK : X.K = K := by rfl)
    (hbase : attributeBase o name X.env (eval o X.env) = eval o X.env := by rfl)
    (hfew : ((backTo cpos (starEach (e :: es) X.env)).all (fun x => !x.1) && (backToKw cpos (keywordEach [] X.env)).all (fun x => x.1.isSome)
      && decide ((e :: es).length + ([] : List Keyword).length + (if ([] : List Keyword).isEmpty then 0 else 1) < 30)) = true := by rfl)
    (hline : (apos.endLine == cpos.line) = true := by rfl) (hs : starEach (e :: es) X.env = (false, eval e X.env) :: starEach es X.env := by rfl) (hplain : (backTo cpos (starEach es X.env)).any (·.1) = false := by rfl) :
    PE X (.Call (.Attribute o name apos) (e :: es) [] cpos) (tBMT K r to t) := hK ▸ pe_bmT slot hty hm ho ha hbase hfew hline hs hplain
theorem pe_bmK {K : PySem.W.Frag} {T : String} (pa : PlainAttrs T) (slot : Slot T name id) (hty : typeOf (.builtin id) = pure (.type "method_descriptor")) (hm : MtR X id r) (ho : PE X o to) (ha : PA X (e :: es) t) (hK : X.K = K := by rfl)
    (hbase : attributeBase o name X.env (eval o X.env) = eval o X.env := by rfl)
    (hfew : ((backTo cpos (starEach (e :: es) X.env)).all (fun x => !x.1) && (backToKw cpos (keywordEach [] X.env)).all (fun x => x.1.isSome)
      && decide ((e :: es).length + ([] : List Keyword).length + (if ([] : List Keyword).isEmpty then 0 else 1) < 30)) = true := by rfl)
    (hline : (apos.endLine == cpos.line) = true := by rfl) (hs : starEach (e :: es) X.env = (false, eval e X.env) :: starEach es X.env := by rfl) (hplain : (backTo cpos (starEach es X.env)).any (·.1) = false := by rfl) :
    PE X (.Call (.Attribute o name apos) (e :: es) [] cpos) (tBM K T r to t) := hK ▸ pe_bm pa slot hty hm ho ha hbase hfew hline hs hplain
def rCntT (K : PySem.W.Frag) : V → List V → Hp → VK → Prop := fun x xs H Q => ∃ (p : Addr) (ns : List Int) (k : Int), x = .ref p ∧ xs = [.int k] ∧ SqT K H p (ns.map V.int) ∧ Q (.int (ns.count k : Nat)) H
theorem mt_tcount : MtR X "tuple.count" (rCntT X.K) := by
  intro pins s σ H x xs v us Q I rx rxs h
  obtain ⟨p, ns, k, rfl, rfl, hs, q⟩ := h
  cases rx
  obtain ⟨u, rfl, ru⟩ := rxs.one
  obtain ⟨t, rfl⟩ := ru
  obtain ⟨its, rv, ⟨⟨cls, dd, data, sl⟩, ho, hc, n, hd⟩, hlen⟩ := I.tuple hs
  simp only at hc hd
  subst hc hd
  have hi := ints_of_vals rv
  refine call_meets PySem.F.slot_tuple_count ⟨_, ho, rfl⟩ PySem.F.entry_tuple_count (PySem.F.args_tuple_count_2 _ _)
    (SeqAt.tuple_countAt p its.toArray n dd sl (.int k t) (eqk k)) ⟨ho, fun y hy => (eqk_gives hi y (by simpa using hy)).at _ _, ?_⟩
  have ec : its.toArray.toList.countP (eqk k) = ns.count k := eqk_count hi
  refine ⟨.int (ns.count k : Nat), H, I.tok _, ⟨s.toks, ?_⟩, q⟩
  show Value.int ((its.toArray.toList.countP (eqk k) : Nat) : Int) s.toks = Value.int ((ns.count k : Nat) : Int) s.toks
  rw [ec]
end
section
variable {c : Cz} {ρ ρ1 ρ2 : List Sl} {ta tb te : TE} {d : PyData}
theorem ed_tcount {l : List Int} {k : Int} (ha : Ed c ρ ta (.tuple (l.map .int)) ρ1) (hb : Ed c ρ1 tb (.int k) ρ2) : Ed c ρ (tBMT c.K (rCntT c.K) ta (tCons tb tNil)) (.int ((l.count k : Nat) : Int)) ρ2 := fun T σ H W Q q => ha T σ H W _ fun v H1 W1 => by
  obtain ⟨a, xs, rfl, hs, h2⟩ := dp_tup W1.dp
  refine ⟨⟨a, xs, rfl, ex_p (hide_ex _ _) hs⟩, hb _ σ H1 W1 _ fun w H2 W2 => ?_⟩
  obtain ⟨a', xs', e, hs', h2'⟩ := dp_tup W2.pop.dp
  cases e
  have := dpaInts h2'
  subst this
  exact ⟨a, l, k, rfl, by rw [dp_int W2.dp], (ex_p (hide_ex _ _) hs').sq, q _ H2 (W2.pop.pop.push (.int _))⟩
def rCntL (K : PySem.W.Frag) := rCntI K
theorem ed_lcount {l : List Int} {k : Int} (ha : Ed c ρ ta (.list (l.map .int)) ρ1) (hb : Ed c ρ1 tb (.int k) ρ2) : Ed c ρ (tBM c.K "list" (rCntI c.K) ta (tCons tb tNil)) (.int ((l.count k : Nat) : Int)) ρ2 := fun T σ H W Q q => ha T σ H W _ fun v H1 W1 => by
  obtain ⟨a, xs, rfl, hs, h2⟩ := dp_lst W1.dp
  refine ⟨.inl ⟨rfl, xs, ex_l (hide_ex _ _) hs⟩, hb _ σ H1 W1 _ fun w H2 W2 => ?_⟩
  obtain ⟨a', xs', e, hs', h2'⟩ := dp_lst W2.pop.dp
  cases e
  have := dpaInts h2'
  subst this
  exact ⟨a, l, k, rfl, by rw [dp_int W2.dp], ex_l (hide_ex _ _) hs', q _ H2 (W2.pop.pop.push (.int _))⟩
end
end Nz

/-! data that can be shown and compared -/
namespace Nz
open PySem PySem.Spec PyProof.Rows L2 RZ
/-- no deeper than k, shown in len letters, parts below 2 ^ 1900 -/
structure Gd (k len : Nat) (d : PyData) : Prop where
  lay : d.canLay0 = true
  sh : d.showable = true
  dep : d.depth ≤ k
  len : d.shown.length ≤ len
theorem Gd.mono {k l k' l' : Nat} {d : PyData} (h : Gd k l d) (a : k ≤ k') (b : l ≤ l') : Gd k' l' d := ⟨h.lay, h.sh, Nat.le_trans h.dep a, Nat.le_trans h.len b⟩
theorem gd_show {k l : Nat} {d : PyData} (h : Gd k l d) (hk : k ≤ 60 := by decide) (hl : l ≤ 16000000 := by decide) : showOk d := ⟨h.sh, PyData.hasDict_of_canLay d h.lay, Nat.le_trans h.dep hk, Nat.le_trans h.len (Nat.le_trans hl (by decide))⟩
theorem gd_shaped {k l : Nat} {d : PyData} (h : Gd k l d) (hk : k ≤ 60 := by decide) : SeqAt.shaped d = true := by
  unfold SeqAt.shaped
  rw [h.lay]
  exact decide_eq_true (Nat.le_trans h.dep (Nat.le_trans hk (by decide)))
theorem pow_1900 : (2 : Nat) ^ 1900 < 10 ^ 600 := by decide +kernel
theorem gd_int {i : Int} (h : i.natAbs < 2 ^ 1900) : Gd 0 601 (.int i) := by
  refine ⟨rfl, ?_, Nat.le_refl _, ?_⟩
  · show decide (i.natAbs.log2 < 1920) = true
    refine decide_eq_true ?_
    by_cases z : i.natAbs = 0
    · rw [z]; decide
    · have := (Nat.log2_lt z).mpr h
      omega
  · have e := PySem.int_text_length_le10 (k := 600) (by decide) (Nat.lt_trans h pow_1900)
    show (Str.ofString (toString i)).length ≤ 601
    rw [PySem.ofString_length]; exact e
theorem gd_bool (b : Bool) : Gd 0 601 (.bool b) := ⟨rfl, rfl, Nat.le_refl _, by cases b <;> decide +kernel⟩
theorem gd_none : Gd 0 601 .none := ⟨rfl, rfl, Nat.le_refl _, by decide +kernel⟩
theorem gd_all {k l : Nat} : ∀ {ds : List PyData}, (∀ d ∈ ds, Gd k l d) → PyData.canLayAll0 ds = true ∧ PyData.showableAll ds = true ∧ PyData.depthAll ds ≤ k ∧ ((PyData.shownAll ds).map (·.length)).sum ≤ l * ds.length
  | [], _ => ⟨rfl, rfl, Nat.zero_le _, by simp [PyData.shownAll]⟩
  | d :: ds, h => by
    obtain ⟨a, b, c, e⟩ := gd_all fun x hx => h x (List.mem_cons_of_mem _ hx)
    obtain ⟨a', b', c', e'⟩ := h d (List.mem_cons_self ..)
    refine ⟨by rw [PyData.canLayAll0, a, a']; rfl, by rw [PyData.showableAll, b, b']; rfl, by rw [PyData.depthAll]; omega, ?_⟩
    rw [PyData.shownAll, List.map_cons, List.sum_cons, List.length_cons, Nat.mul_add]
    omega
theorem gd_list {k l n : Nat} {ds : List PyData} (h : ∀ d ∈ ds, Gd k l d) (hn : ds.length ≤ n) : Gd (k + 1) ((l + 2) * n + 3) (.list ds) := by
  obtain ⟨a, b, c, e⟩ := gd_all h
  refine ⟨by rw [PyData.canLay0]; exact a, by rw [PyData.showable]; exact b, by rw [PyData.depth]; omega, ?_⟩
  have t := listText_len_le (PyData.shownAll ds)
  rw [PyData.shownAll_length] at t
  have e2 : (PyData.list ds).shown = listText (PyData.shownAll ds) := by rw [PyData.shown]
  rw [e2]
  refine Nat.le_trans t ?_
  have : (l + 2) * ds.length ≤ (l + 2) * n := Nat.mul_le_mul_left _ hn
  rw [Nat.add_mul] at this
  omega
theorem gd_tuple {k l n : Nat} {ds : List PyData} (h : ∀ d ∈ ds, Gd k l d) (hn : ds.length ≤ n) : Gd (k + 1) ((l + 2) * n + 3) (.tuple ds) := by
  obtain ⟨a, b, c, e⟩ := gd_all h
  refine ⟨by rw [PyData.canLay0]; exact a, by rw [PyData.showable]; exact b, by rw [PyData.depth]; omega, ?_⟩
  have t := tupleText_len_le (PyData.shownAll ds)
  rw [PyData.shownAll_length] at t
  have e2 : (PyData.tuple ds).shown = tupleText (PyData.shownAll ds) := by rw [PyData.shown]
  rw [e2]
  refine Nat.le_trans t ?_
  have : (l + 2) * ds.length ≤ (l + 2) * n := Nat.mul_le_mul_left _ hn
  rw [Nat.add_mul] at this
  omega
theorem gd_Q {r : Rat} (h : r.num.natAbs < 2 ^ 1900) (h2 : r.den < 2 ^ 1900) : Gd 1 1209 (eQ r) :=
  gd_tuple (k := 0) (l := 601) (n := 2) (fun d hd => by
    simp only [List.mem_cons, List.mem_singleton, List.not_mem_nil, or_false] at hd
    rcases hd with rfl | rfl
    · exact gd_int h
    · exact gd_int (show ((r.den : Int)).natAbs < 2 ^ 1900 from h2)) (Nat.le_refl _)
theorem gd_L {α : Type} {f : α → PyData} {l : List α} {k len n : Nat} (h : ∀ x ∈ l, Gd k len (f x)) (hn : l.length ≤ n) : Gd (k + 1) ((len + 2) * n + 3) (eL f l) :=
  gd_list (fun d hd => by obtain ⟨x, hx, rfl⟩ := List.mem_map.mp hd; exact h x hx) (by rw [List.length_map]; exact hn)
theorem gd_T {α : Type} {f : α → PyData} {l : List α} {k len n : Nat} (h : ∀ x ∈ l, Gd k len (f x)) (hn : l.length ≤ n) : Gd (k + 1) ((len + 2) * n + 3) (eT f l) :=
  gd_tuple (fun d hd => by obtain ⟨x, hx, rfl⟩ := List.mem_map.mp hd; exact h x hx) (by rw [List.length_map]; exact hn)
theorem same_ret {k l : Nat} {a b : PyData} (e : a = b) (h : Gd k l a) : PyData.bool (PyData.eqv a b && decide (PyData.shown a = PyData.shown b)) = PyData.bool true := by
  subst e
  rw [SeqAt.eqv_refl a h.lay]
  simp
section
variable {c : Cz} {ρ ρ1 ρ2 : List Sl} {ta tb te : TE} {d : PyData}
theorem ed_eqS {x y : Str} (ha : Ed c ρ ta (.str x) ρ1) (hb : Ed c ρ1 tb (.str y) ρ2) : Ed c ρ (tOp rEq ta tb) (.bool (decide (x = y))) ρ2 :=
  ed_op ha hb fun T σ H v w W hx hy Q q => by
    rw [dp_str hx, dp_str hy]
    refine ⟨rfl, ?_⟩
    have e : decide (V.str x = V.str y) = decide (x = y) := by simp
    rw [e]
    exact q _ H (W.push (.bl _))
theorem ed_neS {x y : Str} (ha : Ed c ρ ta (.str x) ρ1) (hb : Ed c ρ1 tb (.str y) ρ2) : Ed c ρ (tOp rNe ta tb) (.bool (!decide (x = y))) ρ2 :=
  ed_op ha hb fun T σ H v w W hx hy Q q => by
    rw [dp_str hx, dp_str hy]
    refine ⟨rfl, ?_⟩
    have e : decide (V.str x = V.str y) = decide (x = y) := by simp
    rw [e]
    exact q _ H (W.push (.bl _))
end
end Nz

/-! what may come out in many ways (draws from the script) -/
namespace Nz
open PySem PySem.Spec PyProof.Rows L2 RZ

def Ew {α : Type} (c : Cz) (ρ : List Sl) (te : TE) (f : α → PyData) (P : α → Prop) (ρ' : List Sl) : Prop := ∀ (T : Tm) (σ : L2.St) (H : Hp), Wd c T H σ ρ → ∀ Q : VK, (∀ x v H', P x → Wd c ((v, f x) :: T) H' σ ρ' → Q v H') → te σ H Q
def EwL {α : Type} (c : Cz) (ρ : List Sl) (te : TE) (g : α → List PyData) (P : α → Prop) (ρ' : List Sl) : Prop := ∀ (T : Tm) (σ : L2.St) (H : Hp), Wd c T H σ ρ → ∀ Q : VK,
  (∀ x p H', P x → c.B p = none → p ∉ hid c ρ' → MoOk c.K (p :: hid c ρ') H' p (.lst (g x)) → Wd (c.hidden p) T H' σ ρ' → Q (.ref p) H') → te σ H Q
def Ewt (c : Cz) (ρ : List Sl) (tt : TT) (P : Bool → Prop) (ρ' : List Sl) : Prop := ∀ (T : Tm) (σ : L2.St) (H : Hp), Wd c T H σ ρ → ∀ Q : Bool → Hp → Prop, (∀ b H', P b → Wd c T H' σ ρ' → Q b H') → tt σ H Q
def Ewa {α : Type} (c : Cz) (ρ : List Sl) (ta : TA) (as : α → List Ar) (P : α → Prop) (ρ' : List Sl) : Prop := ∀ (T : Tm) (σ : L2.St) (H : Hp), Wd c T H σ ρ → ∀ Q : List V → Hp → Prop,
  (∀ x vs H', P x → AA c.K (hide (hid c ρ') H') vs (as x) → Wd c T H' σ ρ' → Q vs H') → ta σ H Q
def Ewo (c : Cz) (ρ : List Sl) (to : TO) (P : Option Int → Prop) (ρ' : List Sl) : Prop := ∀ (T : Tm) (σ : L2.St) (H : Hp), Wd c T H σ ρ → ∀ Q : Option Int → Hp → Prop, (∀ o H', P o → Wd c T H' σ ρ' → Q o H') → to σ H Q

/-! #### slots put behind -/
def slA : Ar → Sl
  | .raw v => .vl v
  | .dat d => .da d
theorem muts_app {ρ : List Sl} {as : List Ar} : muts (ρ ++ as.map slA) = muts ρ := by
  unfold muts
  rw [List.filterMap_append]
  have : List.filterMap mutA (as.map slA) = [] := by
    rw [List.filterMap_eq_nil_iff]
    intro s hs
    obtain ⟨a, _, rfl⟩ := List.mem_map.mp hs
    cases a <;> rfl
  rw [this, List.append_nil]
theorem hid_app {c : Cz} {ρ : List Sl} {as : List Ar} : hid c (ρ ++ as.map slA) = hid c ρ := by
  show c.S0 ++ muts _ = c.S0 ++ muts _
  rw [muts_app]
theorem aa_get {K : PySem.W.Frag} {H : Hp} : ∀ {as : List Ar} {vs : List V}, AA K H vs as → ∀ (i : Nat) (s : Sl), (as.map slA)[i]? = some s → ∃ v, vs[i]? = some v ∧ (s = .vl v ∨ ∃ d, s = .da d ∧ Dz K H v d)
  | [], _, h, i, s, e => by simp at e
  | a :: as, _, h, 0, s, e => by
    cases h with
    | raw h => exact ⟨_, rfl, .inl (Option.some.inj e).symm⟩
    | dat h1 h => exact ⟨_, rfl, .inr ⟨_, (Option.some.inj e).symm, h1⟩⟩
  | a :: as, _, h, i + 1, s, e => by
    cases h with
    | raw h => exact aa_get h i s e
    | dat h1 h => exact aa_get h i s e
theorem aa_len {K : PySem.W.Frag} {H : Hp} : ∀ {as : List Ar} {vs : List V}, AA K H vs as → vs.length = as.length
  | [], _, h => by cases h; rfl
  | a :: as, _, h => by
    cases h with
    | raw h => exact congrArg (· + 1) (aa_len h)
    | dat h1 h => exact congrArg (· + 1) (aa_len h)
theorem Wd.ext {c : Cz} {T : Tm} {H : Hp} {σ : L2.St} {ρ : List Sl} {vs : List V} {as : List Ar} (W : Wd c T H σ ρ) (a : AA c.K (hide (hid c ρ) H) vs as) : Wd c T H (σ ++ vs.map some) (ρ ++ as.map slA) := by
  have nm : ∀ {i : Nat} {l : Bool} {b : Addr} {o : MO}, (ρ ++ as.map slA)[i]? = some (.mu l b o) → ρ[i]? = some (.mu l b o) := fun {i l b o} e => by
    by_cases hi : i < ρ.length
    · rwa [List.getElem?_append_left hi] at e
    · rw [List.getElem?_append_right (by omega)] at e
      obtain ⟨v, _, q | ⟨d, q, _⟩⟩ := aa_get a _ _ e <;> cases q
  refine ⟨?_, W.keep, W.sub, W.dom, ?_, fun i j l m b o u h1 h2 => W.inj i j l m b o u (nm h1) (nm h2), fun i b o h => W.ap i b o (nm h), fun i s e => ?_⟩
  · simp [W.len, aa_len a]
  · rw [hid_app]; exact W.tmp
  · rw [hid_app]
    have hl := W.len
    by_cases hi : i < ρ.length
    · rw [List.getElem?_append_left hi] at e
      rw [List.getElem?_append_left (by omega)]
      exact W.ok i s e
    · rw [List.getElem?_append_right (by omega)] at e
      rw [List.getElem?_append_right (by omega), hl, List.getElem?_map]
      obtain ⟨v, hv, q | ⟨d, q, dv⟩⟩ := aa_get a _ _ e
      · subst q; rw [hv]; exact rfl
      · subst q; rw [hv]; exact ⟨v, rfl, dv⟩
theorem Wd.cut {c : Cz} {T : Tm} {H : Hp} {σ τ : L2.St} {ρ : List Sl} {as : List Ar} (W : Wd c T H (σ ++ τ) (ρ ++ as.map slA)) (hl : σ.length = ρ.length) : Wd c T H σ ρ := by
  have up : ∀ {i : Nat} {s : Sl}, ρ[i]? = some s → (ρ ++ as.map slA)[i]? = some s := fun {i s} e => by
    rw [List.getElem?_append_left (List.getElem?_eq_some_iff.mp e).1]; exact e
  refine ⟨hl, W.keep, W.sub, W.dom, ?_, fun i j l m b o u h1 h2 => W.inj i j l m b o u (up h1) (up h2), fun i b o h => W.ap i b o (up h), fun i s e => ?_⟩
  · have := W.tmp; rw [hid_app] at this; exact this
  · have ok := W.ok i s (up e)
    have hi := (List.getElem?_eq_some_iff.mp e).1
    rw [hid_app, List.getElem?_append_left (by omega)] at ok
    exact ok

section
variable {c : Cz} {ρ ρ1 ρ2 ρ3 : List Sl} {ta tb te tx : TE} {t u : TT} {d d1 d2 d3 : PyData} {T : Tm} {H H' : Hp} {σ : L2.St}
variable {α β γ : Type} {f : α → PyData} {g : β → PyData} {e : γ → PyData} {P : α → Prop} {P2 : β → Prop} {P3 : γ → Prop}
theorem ew_det {x : α} (h : Ed c ρ te (f x) ρ1) : Ew c ρ te f (fun y => y = x) ρ1 := fun T σ H W Q q => h T σ H W Q fun v H1 W1 => q x v H1 rfl W1
theorem ew_imp {R : α → Prop} (h : Ew c ρ te f P ρ1) (i : ∀ x, P x → R x) : Ew c ρ te f R ρ1 := fun T σ H W Q q => h T σ H W Q fun x v H1 px W1 => q x v H1 (i x px) W1
theorem ew_as {R : β → Prop} (h : Ew c ρ te f P ρ1) (i : ∀ x, P x → ∃ y, R y ∧ f x = g y) : Ew c ρ te g R ρ1 := fun T σ H W Q q => h T σ H W Q fun x v H1 px W1 => by
  obtain ⟨y, hy, e⟩ := i x px
  rw [e] at W1
  exact q y v H1 hy W1
theorem ewt_det {b : Bool} (h : Et c ρ t b ρ1) : Ewt c ρ t (fun y => y = b) ρ1 := fun T σ H W Q q => h T σ H W Q fun H1 W1 => q b H1 rfl W1
theorem ewl_det {x : α} {f : α → List PyData} (h : EdL c ρ te (f x) ρ1) : EwL c ρ te f (fun y => y = x) ρ1 := fun T σ H W Q q => h T σ H W Q fun p H1 h1 h2 h3 W1 => q x p H1 rfl h1 h2 h3 W1
theorem ew_L {f : α → List PyData} (h : EwL c ρ te f P ρ1) : Ew c ρ te (fun x => .list (f x)) P ρ1 := fun T σ H W Q q => h T σ H W Q fun x p H' px hB hn hm W' => by
  have W2 := W'.unhide W.sub
  obtain ⟨xs, h1, h2⟩ := hm
  have e2 : Ex (hide (p :: hid c ρ1) H') (hide (hid c ρ1) H') := hide_mono fun a o n h => ⟨fun m => n (List.mem_cons_of_mem _ m), h⟩
  exact q x _ H' px (W2.push (.lst (sq_of (hide_of hn h1)) (dpam e2 h2)))
/-- an operator: as for data that is known -/
theorem ew_op {r : R2} {F : α → β → γ} (ha : Ew c ρ ta f P ρ1) (hb : Ew c ρ1 tb g P2 ρ2)
    (h : ∀ x y, P x → P2 y → ∀ (ρ : List Sl) (ta tb : TE), Ed c ρ ta (f x) ρ → Ed c ρ tb (g y) ρ → Ed c ρ (tOp r ta tb) (e (F x y)) ρ) : Ew c ρ (tOp r ta tb) e (fun z => ∃ x y, P x ∧ P2 y ∧ z = F x y) ρ2 :=
  fun T σ H W Q q => ha T σ H W _ fun x v H1 px W1 => hb _ σ H1 W1 _ fun y w H2 py W2 => by
    have hl := W2.len
    have W3 := W2.ext (as := [.dat (f x), .dat (g y)]) (.dat W2.pop.dp (.dat W2.dp .nil))
    obtain ⟨v', e1, w', e2, k⟩ := h x y px py (ρ2 ++ [.dat (f x), .dat (g y)].map slA) (tVar ρ2.length) (tVar (ρ2.length + 1)) (ed_var (by simp [slA])) (ed_var (by rw [List.getElem?_append_right (by omega)]; simp [slA])) _ _ H2 W3 Q
      (fun z H' W4 => q _ z H' ⟨x, y, px, py, rfl⟩ ((W4.cut hl).tmps fun p hp => by
        rcases List.mem_cons.mp hp with e | m
        · rw [e]; exact List.mem_cons_self ..
        · exact List.mem_cons_of_mem _ (List.mem_cons_of_mem _ (List.mem_cons_of_mem _ m))))
    rw [List.getElem?_append_right (by omega)] at e1 e2
    rw [show ρ2.length - σ.length = 0 by omega] at e1
    rw [show ρ2.length + 1 - σ.length = 1 by omega] at e2
    cases e1; cases e2
    exact k
theorem ewl_op {r : R2} {F : α → β → γ} {e : γ → List PyData} (ha : Ew c ρ ta f P ρ1) (hb : Ew c ρ1 tb g P2 ρ2)
    (h : ∀ x y, P x → P2 y → ∀ (ρ : List Sl) (ta tb : TE), Ed c ρ ta (f x) ρ → Ed c ρ tb (g y) ρ → EdL c ρ (tOp r ta tb) (e (F x y)) ρ) : EwL c ρ (tOp r ta tb) e (fun z => ∃ x y, P x ∧ P2 y ∧ z = F x y) ρ2 :=
  fun T σ H W Q q => ha T σ H W _ fun x v H1 px W1 => hb _ σ H1 W1 _ fun y w H2 py W2 => by
    have hl := W2.len
    have W3 := W2.ext (as := [.dat (f x), .dat (g y)]) (.dat W2.pop.dp (.dat W2.dp .nil))
    obtain ⟨v', e1, w', e2, k⟩ := h x y px py (ρ2 ++ [.dat (f x), .dat (g y)].map slA) (tVar ρ2.length) (tVar (ρ2.length + 1)) (ed_var (by simp [slA])) (ed_var (by rw [List.getElem?_append_right (by omega)]; simp [slA])) _ _ H2 W3 Q
      (fun p H' h1 h2 h3 W4 => by
        rw [hid_app] at h2 h3
        exact q _ p H' ⟨x, y, px, py, rfl⟩ h1 h2 h3 ((W4.cut hl).pop.pop))
    rw [List.getElem?_append_right (by omega)] at e1 e2
    rw [show ρ2.length - σ.length = 0 by omega] at e1
    rw [show ρ2.length + 1 - σ.length = 1 by omega] at e2
    cases e1; cases e2
    exact k
/-- anything of one part: G te = te, then k -/
theorem ew_1 {G : TE → TE} {k : V → L2.St → Hp → VK → Prop} {F : α → γ} (hG : ∀ te σ H Q, G te σ H Q = te σ H fun v H' => k v [] H' Q) (ha : Ew c ρ ta f P ρ1)
    (h : ∀ x, P x → ∀ (ρ : List Sl) (ta : TE), Ed c ρ ta (f x) ρ → Ed c ρ (G ta) (e (F x)) ρ) : Ew c ρ (G ta) e (fun z => ∃ x, P x ∧ z = F x) ρ1 :=
  fun T σ H W Q q => by
    rw [hG]
    refine ha T σ H W _ fun x v H1 px W1 => ?_
    have hl := W1.len
    have W3 := W1.ext (as := [.dat (f x)]) (.dat W1.dp .nil)
    have k := h x px (ρ1 ++ [.dat (f x)].map slA) (tVar ρ1.length) (ed_var (by simp [slA])) _ _ H1 W3 Q
      (fun z H' W4 => q _ z H' ⟨x, px, rfl⟩ ((W4.cut hl).tmps fun p hp => by
        rcases List.mem_cons.mp hp with e | m
        · rw [e]; exact List.mem_cons_self ..
        · exact List.mem_cons_of_mem _ (List.mem_cons_of_mem _ m)))
    rw [hG] at k
    obtain ⟨v', e1, k⟩ := k
    rw [List.getElem?_append_right (by omega)] at e1
    rw [show ρ1.length - σ.length = 0 by omega] at e1
    cases e1
    exact k
theorem ewl_1 {G : TE → TE} {k : V → L2.St → Hp → VK → Prop} {F : α → γ} {e : γ → List PyData} (hG : ∀ te σ H Q, G te σ H Q = te σ H fun v H' => k v [] H' Q) (ha : Ew c ρ ta f P ρ1)
    (h : ∀ x, P x → ∀ (ρ : List Sl) (ta : TE), Ed c ρ ta (f x) ρ → EdL c ρ (G ta) (e (F x)) ρ) : EwL c ρ (G ta) e (fun z => ∃ x, P x ∧ z = F x) ρ1 :=
  fun T σ H W Q q => by
    rw [hG]
    refine ha T σ H W _ fun x v H1 px W1 => ?_
    have hl := W1.len
    have W3 := W1.ext (as := [.dat (f x)]) (.dat W1.dp .nil)
    have k := h x px (ρ1 ++ [.dat (f x)].map slA) (tVar ρ1.length) (ed_var (by simp [slA])) _ _ H1 W3 Q
      (fun p H' h1 h2 h3 W4 => by
        rw [hid_app] at h2 h3
        exact q _ p H' ⟨x, px, rfl⟩ h1 h2 h3 ((W4.cut hl).pop))
    rw [hG] at k
    obtain ⟨v', e1, k⟩ := k
    rw [List.getElem?_append_right (by omega)] at e1
    rw [show ρ1.length - σ.length = 0 by omega] at e1
    cases e1
    exact k
theorem ew_cb1 {r : List V → Hp → VK → Prop} {F : α → γ} (ha : Ew c ρ ta f P ρ1) (h : ∀ x, P x → ∀ (ρ : List Sl) (ta : TE), Ed c ρ ta (f x) ρ → Ed c ρ (tCB r (tCons ta tNil)) (e (F x)) ρ) :
    Ew c ρ (tCB r (tCons ta tNil)) e (fun z => ∃ x, P x ∧ z = F x) ρ1 :=
  ew_1 (G := fun ta => tCB r (tCons ta tNil)) (k := fun v _ H Q => r [v] H Q) (fun _ _ _ _ => rfl) ha h
theorem ewl_cb1 {r : List V → Hp → VK → Prop} {F : α → γ} {e : γ → List PyData} (ha : Ew c ρ ta f P ρ1) (h : ∀ x, P x → ∀ (ρ : List Sl) (ta : TE), Ed c ρ ta (f x) ρ → EdL c ρ (tCB r (tCons ta tNil)) (e (F x)) ρ) :
    EwL c ρ (tCB r (tCons ta tNil)) e (fun z => ∃ x, P x ∧ z = F x) ρ1 :=
  ewl_1 (G := fun ta => tCB r (tCons ta tNil)) (k := fun v _ H Q => r [v] H Q) (fun _ _ _ _ => rfl) ha h
/-! #### arguments, displays, calls -/
theorem ewa_det {x : α} {as : α → List Ar} {ts : TA} (h : Ea c ρ ts (as x) ρ1) : Ewa c ρ ts as (fun y => y = x) ρ1 := fun T σ H W Q q => h T σ H W Q fun v H1 a W1 => q x v H1 rfl a W1
theorem ewa_nil : Ewa c ρ tNil (fun (_ : Unit) => []) (fun _ => True) ρ := fun T σ H W Q q => q () [] H trivial .nil W
theorem ewa_cons {ts : TA} {as : β → List Ar} (h : Ew c ρ te f P ρ1) (hr : Ewa c ρ1 ts as P2 ρ2) : Ewa c ρ (tCons te ts) (fun p : α × β => .dat (f p.1) :: as p.2) (fun p => P p.1 ∧ P2 p.2) ρ2 := fun T σ H W Q q =>
  h T σ H W _ fun x v H1 px W1 => hr _ σ H1 W1 _ fun y vs H2 py a W2 => q (x, y) _ H2 ⟨px, py⟩ (.dat W2.dp a) W2.pop
theorem ewa_raw {ts : TA} {as : α → List Ar} {i : Nat} {a : Addr} {l : Bool} {o : MO} (h : ρ[i]? = some (.mu l a o)) (hr : Ewa c ρ ts as P ρ2) : Ewa c ρ (tCons (tVar i) ts) (fun x => .raw (.ref a) :: as x) P ρ2 := fun T σ H W Q q =>
  ⟨.ref a, (W.ok i _ h).1, hr T σ H W _ fun x vs H2 px a W2 => q x _ H2 px (.raw a) W2⟩
theorem ew_tup {ts : TA} {ds : α → List PyData} {n : Nat} (h : Ewa c ρ ts (fun x => (ds x).map .dat) P ρ1) (hn : ∀ x, (ds x).length = n) (hl : Nat.ble n 100000 = true := by rfl) : Ew c ρ (tTupF ts) (fun x => .tuple (ds x)) P ρ1 := fun T σ H W Q q =>
  h T σ H W _ fun x vs H1 px a W1 => ⟨dpa_sz (aa_dats a) (by rw [hn]; exact Nat.le_of_ble_eq_true hl), fun p o z hp => q x _ _ px (tup_new W1 (aa_dats a) z hp)⟩
theorem ewl_lst {ts : TA} {ds : α → List PyData} {n : Nat} (h : Ewa c ρ ts (fun x => (ds x).map .dat) P ρ1) (hn : ∀ x, (ds x).length = n) (hl : Nat.ble n 100000 = true := by rfl) : EwL c ρ (tLst ts) ds P ρ1 := fun T σ H W Q q =>
  h T σ H W _ fun x vs H1 px a W1 => ⟨dpa_sz (aa_dats a) (by rw [hn]; exact Nat.le_of_ble_eq_true hl), fun p hp => by
    obtain ⟨x1, x2, x3, x4⟩ := el_new W1 (aa_dats a) hp
    exact q x p _ px x1 x2 x3 x4⟩
theorem ew_call {R : List PyData → PyData → Prop} {ts : TA} {ds : α → List PyData} {E : XK} {F : α → γ} (h : Ewa c ρ ts (fun x => (ds x).map .dat) P ρ1) (hR : ∀ x, P x → R (ds x) (e (F x))) :
    Ew c ρ (tCall (SpP c.K R) [] E ts) e (fun z => ∃ x, P x ∧ z = F x) ρ1 := fun T σ H W Q q => h T σ H W _ fun x vs H1 px a W1 => by
  rw [List.append_nil]
  exact ⟨hid c ρ1, ds x, e (F x), fun a h => W1.there h, aa_dats a, hR x px, fun v H' e dp => q _ v H' ⟨x, px, rfl⟩ ((W1.grow e).push dp)⟩
/-! #### the state that draws come from -/
/-- a list of four: the script, what is left of the cell, the place, the seed -/
def StOk (ds : List PyData) : Prop := ∃ (l : List Int) (cur pos seed : Nat), ds = [.list (l.map .int), .int (cur : Int), .int (pos : Int), .int (seed : Int)]
/-- a def that draws: its first argument is the state; Φ: what may come out -/
def SpW (K : PySem.W.Frag) (R : List PyData → (PyData → Prop) → Prop) : Sp := fun vs H Q _ => ∃ (S : List Addr) (a : Addr) (vs' : List V) (ds : List PyData) (Φ : PyData → Prop), vs = .ref a :: vs' ∧ a ∈ S ∧ (∀ b ∈ S, ∃ o, H b = some o) ∧
  MoOk K S H a (.any StOk) ∧ DzAll K (hide S H) vs' ds ∧ R ds Φ ∧ ∀ d v H', Φ d → (∀ b o, b ≠ a → H b = some o → H' b = some o) → MoOk K S H' a (.any StOk) → Dz K (hide S H') v d → Q v H'
theorem set_same {ρ : List Sl} {i : Nat} {s : Sl} (h : ρ[i]? = some s) : ρ.set i s = ρ := by
  apply List.ext_getElem?
  intro k
  by_cases q : i = k
  · subst q
    rw [List.getElem?_set_self (List.getElem?_eq_some_iff.mp h).1, h]
  · rw [List.getElem?_set_ne q]
theorem ew_callW {R : List PyData → (PyData → Prop) → Prop} {ts : TA} {ds : α → List PyData} {E : XK} {i : Nat} {l : Bool} {a : Addr} {P3 : α → γ → Prop} (h : Ewa c ρ ts (fun x => .raw (.ref a) :: (ds x).map .dat) P ρ1) (hi : ρ1[i]? = some (.mu l a (.any StOk)))
    (hR : ∀ x, P x → R (ds x) (fun d => ∃ z, P3 x z ∧ d = e z)) : Ew c ρ (tCall (SpW c.K R) [] E ts) e (fun z => ∃ x, P x ∧ P3 x z) ρ1 := fun T σ H W Q q => h T σ H W _ fun x vs H1 px aa W1 => by
  rw [List.append_nil]
  cases aa with
  | raw aa =>
    have hm : a ∈ hid c ρ1 := List.mem_append_right _ (mem_muts.mpr ⟨i, l, _, hi⟩)
    refine ⟨hid c ρ1, a, _, ds x, _, rfl, hm, fun a h => W1.there h, (W1.ok i _ hi).2.2, aa_dats aa, hR x px, fun d v H' ⟨z, hz, ed⟩ hk mo dp => ?_⟩
    subst ed
    have W2 := W1.chg hi hk mo
    rw [set_same hi] at W2
    exact q z v H' ⟨x, px, hz⟩ (W2.push dp)
/-! #### tests -/
theorem ew_ite {ca cb : Bool → Prop} (h : Ewt c ρ t ca ρ1) {f : α → PyData} {P P2 : α → Prop} (h1 : ca true → Ew c ρ1 ta f P ρ2) (h2 : ca false → Ew c ρ1 tb f P2 ρ2) : Ew c ρ (tIf t ta tb) f (fun x => (ca true ∧ P x) ∨ (ca false ∧ P2 x)) ρ2 := fun T σ H W Q q => h T σ H W _ fun b H1 hb W1 => by
  cases b with
  | true => exact h1 hb T σ H1 W1 Q fun x v H2 px W2 => q x v H2 (.inl ⟨hb, px⟩) W2
  | false => exact h2 hb T σ H1 W1 Q fun x v H2 px W2 => q x v H2 (.inr ⟨hb, px⟩) W2
theorem ewt_test {P3' : Bool → Prop} (h : Ew c ρ te (fun b => .bool b) P3' ρ1) : Ewt c ρ (tTest te) P3' ρ1 := fun T σ H W Q q => h T σ H W _ fun b v H1 pb W1 => ⟨b, dp_bl W1.dp, q b H1 pb W1.pop⟩
theorem ewt_tru {R : Bool → Prop} (h : Ew c ρ te f P ρ1) (ok : ∀ x, P x → truOk (f x) = true) (hR : ∀ x, P x → R (truD (f x))) : Ewt c ρ (fun σ H Q => te σ H fun x H' => ∃ k, TruV c.K x H' k ∧ Q k H') R ρ1 := fun T σ H W Q q => h T σ H W _ fun x v H1 px W1 =>
  ⟨_, tru_dp (dpm (hide_ex _ _) W1.dp) (ok x px), q _ H1 (hR x px) W1.pop⟩
theorem ewt_and {A B : Bool → Prop} (h1 : Ewt c ρ t A ρ1) (h2 : A true → Ewt c ρ1 u B ρ1) : Ewt c ρ (tAnd t u) (fun b => (A false ∧ b = false) ∨ (A true ∧ B b)) ρ1 := fun T σ H W Q q => h1 T σ H W _ fun a H1 ha W1 => by
  cases a with
  | true => exact h2 ha T σ H1 W1 Q fun b H2 hb W2 => q b H2 (.inr ⟨ha, hb⟩) W2
  | false => exact q false H1 (.inl ⟨ha, rfl⟩) W1
theorem ewt_or {A B : Bool → Prop} (h1 : Ewt c ρ t A ρ1) (h2 : A false → Ewt c ρ1 u B ρ1) : Ewt c ρ (tOr t u) (fun b => (A true ∧ b = true) ∨ (A false ∧ B b)) ρ1 := fun T σ H W Q q => h1 T σ H W _ fun a H1 ha W1 => by
  cases a with
  | true => exact q true H1 (.inl ⟨ha, rfl⟩) W1
  | false => exact h2 ha T σ H1 W1 Q fun b H2 hb W2 => q b H2 (.inr ⟨ha, hb⟩) W2
theorem ewt_not {A : Bool → Prop} (h1 : Ewt c ρ t A ρ1) : Ewt c ρ (tNot t) (fun b => A (!b)) ρ1 := fun T σ H W Q q => h1 T σ H W _ fun a H1 ha W1 => q _ H1 (by show A (!(!a)); rw [Bool.not_not]; exact ha) W1
theorem ewt_imp {A B : Bool → Prop} (h : Ewt c ρ t A ρ1) (i : ∀ b, A b → B b) : Ewt c ρ t B ρ1 := fun T σ H W Q q => h T σ H W Q fun b H1 hb W1 => q b H1 (i b hb) W1
theorem ew_and {A B : Bool → Prop} (h1 : Ew c ρ ta (fun b => .bool b) A ρ1) (h2 : A true → Ew c ρ1 tb (fun b => .bool b) B ρ1) : Ew c ρ (tAndV ta tb) (fun b => .bool b) (fun b => (A false ∧ b = false) ∨ (A true ∧ B b)) ρ1 := fun T σ H W Q q => h1 T σ H W _ fun a v H1 ha W1 => ⟨a, dp_bl W1.dp, by
  cases a with
  | true => exact h2 ha T σ H1 W1.pop Q fun b v H2 hb W2 => q b v H2 (.inr ⟨ha, hb⟩) W2
  | false => exact q false _ H1 (.inl ⟨ha, rfl⟩) (W1.pop.push (.bl _))⟩
/-! #### walks, comprehensions -/
def Eiw {α : Type} (c : Cz) (ρ : List Sl) (wi : TI) (its : α → List Itm) (P : α → Prop) (ρ' : List Sl) : Prop := ∀ (T : Tm) (σ : L2.St) (H : Hp), Wd c T H σ ρ → ∀ R : It → Hp → Prop, (∀ x J H' T1, P x → Wd c (T1 ++ T) H' σ ρ' → Walks c.K J T1 (its x) → R J H') → wi σ H R
theorem eiw_det {wi : TI} {its : α → List Itm} {x : α} (h : Ei c ρ wi (its x) ρ1) : Eiw c ρ wi its (fun y => y = x) ρ1 := fun T σ H W R q => h T σ H W R fun J H1 T1 W1 hw => q x J H1 T1 rfl W1 hw
theorem eiw_rng {P : Int → Prop} (h : Ew c ρ te PyData.int P ρ1) (hn : ∀ n, P n → -4000000000 ≤ n ∧ n ≤ 4000000000) : Eiw c ρ (iRng1 (tCons te tNil)) (fun n : Int => (List.range n.toNat).map fun (i : Nat) => Itm.hard (PyData.int (i : Int))) P ρ1 := fun T σ H W R q => h T σ H W _ fun n v H1 pn W1 => by
  have hh := hn n pn
  refine ⟨n, by rw [dp_int W1.dp], by omega, by omega, ?_⟩
  refine q n _ H1 [] pn W1.pop ?_
  have := walks_rng c.K 0 n.toNat
  unfold hards rngD at this
  simp only [Int.zero_add, List.map_map] at this
  exact this
/-- a comprehension, by what holds of the items so far -/
theorem el_lcN {wi : TI} {g : TG} {tt : TT} {vs : List Nat} {its : α → List Itm} (h : Eiw c ρ wi its P ρ1) (J : α → Nat → List PyData → Prop) (hJ : ∀ x, P x → J x 0 []) (hsz : ∀ x, P x → (its x).length ≤ 100000) (hvs : ∀ j ∈ vs, ρ1[j]? = some .no)
    (turn : ∀ (S : List Addr) (B : Hp) (x : α) (i : Nat) (d : Itm) (acc : List PyData), P x → (its x)[i]? = some d → J x i acc → ∃ (ρa : List Sl) (bp : Bool → Prop), Nz.wipeS ρa vs = ρ1 ∧ Eg (c.at S B) g d ρ1 ρa vs ∧ Ewt (c.at S B) ρa tt bp ρa ∧
      (bp true → Ew (c.at S B) ρa te (fun d => d) (fun d' => J x (i + 1) (acc ++ [d'])) ρa) ∧ (bp false → J x (i + 1) acc)) : EwL c ρ (tLc wi g tt te vs) (fun l : List PyData => l) (fun l => ∃ x, P x ∧ J x (its x).length l) ρ1 := fun T σ H W Q q =>
  h T σ H W _ fun x It H1 T1 px W1 hw D hD => by
    have hB := W1.freshB hD
    have hsub := W1.sub
    have nS : D ∉ c.S0 := fun m => W1.fresh hD (List.mem_append_left _ m)
    have nM : D ∉ c.M := fun m => nS (hsub D m)
    obtain ⟨_, hDn, mo0, Wh⟩ := el_new W1 (.nil) hD
    have eP : ∀ {H2 : Hp}, Wd (c.hidden D) (T1 ++ T) H2 (L2.wipe σ vs) ρ1 → D ∉ hid c ρ1 := fun W2 => W2.notin nS hsub
    have hs := hsz x px
    refine ⟨fun i m H2 => i + m = (its x).length ∧ ∃ acc, acc.length ≤ i ∧ J x i acc ∧ Wd (c.hidden D) (T1 ++ T) H2 (L2.wipe σ vs) ρ1 ∧ MoOk c.K (D :: hid c ρ1) H2 D (.lst acc), ⟨(its x).length, by omega, [], Nat.le_refl _, hJ x px, Wh.wipe hvs, mo0⟩, fun i m H2 ⟨hm, acc, la, ja, W2, mo⟩ => ?_⟩
    by_cases hi : i < (its x).length
    · obtain ⟨xs, hxs, dxs⟩ := mo
      have lx := dpa_length dxs
      have W2a : Wd (c.at (D :: c.S0) (upd c.B D (.lst xs))) (T1 ++ T) H2 (L2.wipe σ vs) ρ1 := W2.pin hxs hB hsub nS
      have W2b : Wd (c.at (D :: c.S0) (upd c.B D (.lst xs))) (xs.zip acc ++ (T1 ++ T)) H2 (L2.wipe σ vs) ρ1 := W2a.pushAll dxs
      have W2c : Wd (c.at (D :: c.S0) (upd c.B D (.lst xs))) (T1 ++ (xs.zip acc ++ T)) H2 (L2.wipe σ vs) ρ1 := W2b.tmps fun p hp => by
        simp only [List.mem_append] at hp ⊢
        rcases hp with hp | hp | hp
        · exact .inr (.inl hp)
        · exact .inl hp
        · exact .inr (.inr hp)
      have hwk := hw (c.at (D :: c.S0) (upd c.B D (.lst xs))) _ _ _ _ rfl W2c
      refine .inr ⟨(hwk.1 i hi).1, fun H3 => ∃ acc, acc.length ≤ i + 1 ∧ J x (i + 1) acc ∧ Wd (c.hidden D) (T1 ++ T) H3 (L2.wipe σ vs) ρ1 ∧ MoOk c.K (D :: hid c ρ1) H3 D (.lst acc), fun H3 ⟨ac, h3⟩ => ⟨m - 1, by omega, by omega, ac, h3⟩, fun y H3 hy => ?_⟩
      obtain ⟨d, hd, W3⟩ := (hwk.1 i hi).2 y H3 hy
      obtain ⟨ρa, bp, hwp, g1, g2, g3, g4⟩ := turn (D :: c.S0) (upd c.B D (.lst xs)) x i d acc px hd ja
      refine g1 _ _ _ _ W3 _ fun σ2 H4 W4 ew => ⟨by rw [ew, wipe_wipe], g2 _ σ2 H4 W4 _ fun b H5 pb W5 => ?_⟩
      rw [wipe_wipe] at ew
      cases b with
      | true =>
        rw [if_pos rfl]
        refine g3 pb _ σ2 H5 W5 _ fun d' z H6 jz W6 => ?_
        have W7 := W6.wipeS vs
        rw [hwp, ew] at W7
        obtain ⟨hx6, W8⟩ := W7.unpin hB nM
        have hn8 := W8.notin nS hsub
        refine ⟨xs, hx6, Nat.lt_of_lt_of_le (show xs.length < 100000 by omega) (by decide), acc ++ [d'], by simp; omega, jz, ?_, ?_⟩
        · refine (W8.updHid hB hn8).tmps fun p hp => List.mem_cons_of_mem _ ?_
          simp only [List.mem_append] at hp ⊢
          rcases hp with hp | hp
          · exact .inl hp
          · exact .inr (.inr hp)
        · refine ⟨xs ++ [z], upd_same, ?_⟩
          have W9 := W8.updHid (u := .lst (xs ++ [z])) hB hn8
          have a1 : DzAll c.K (hide (hid (c.hidden D) ρ1) (upd H6 D (.lst (xs ++ [z])))) xs acc := Wd.allOf (T := (z, d') :: (T1 ++ T)) lx (W9.tmps fun p hp => by
            simp only [List.mem_append, List.mem_cons] at hp ⊢
            rcases hp with hp | hp | hp | hp
            · exact .inr (.inr (.inl hp))
            · exact .inl hp
            · exact .inr (.inl hp)
            · exact .inr (.inr (.inr hp)))
          exact dpa_append a1 (.cons (W9.tmp (z, d') (List.mem_cons_self ..)) .nil)
      | false =>
        rw [if_neg (by decide)]
        have W7 := W5.wipeS vs
        rw [hwp, ew] at W7
        obtain ⟨hx6, W8⟩ := W7.unpin hB nM
        refine ⟨acc, by omega, g4 pb, W8.tmps fun p hp => ?_, xs, hx6, ?_⟩
        · simp only [List.mem_append] at hp ⊢
          rcases hp with hp | hp
          · exact .inl hp
          · exact .inr (.inr hp)
        · exact Wd.allOf (T := T1 ++ T) lx (W8.tmps fun p hp => by
            simp only [List.mem_append, List.mem_cons] at hp ⊢
            rcases hp with hp | hp | hp
            · exact .inr (.inl hp)
            · exact .inl hp
            · exact .inr (.inr hp))
    · have ei : i = (its x).length := by omega
      subst ei
      refine .inl ⟨(hw (c.hidden D) T (L2.wipe σ vs) H2 ρ1 rfl W2).2 _ (Nat.le_refl _), ?_⟩
      have W4 : Wd (c.hidden D) T H2 (L2.wipe σ vs) ρ1 := W2.tmps fun p hp => List.mem_append_right _ hp
      exact q acc D H2 ⟨x, px, ja⟩ hB (eP W2) mo (W4.unwipe hvs)
/-- one for each item -/
inductive Fa {α β : Type} (R : α → β → Prop) : List α → List β → Prop
  | nil : Fa R [] []
  | cons {a : α} {b : β} {l : List α} {m : List β} : R a b → Fa R l m → Fa R (a :: l) (b :: m)
theorem Fa.len {R : α → β → Prop} {l : List α} {m : List β} (h : Fa R l m) : m.length = l.length := by
  induction h with
  | nil => rfl
  | cons _ _ ih => rw [List.length_cons, List.length_cons, ih]
theorem Fa.snoc {R : α → β → Prop} {l : List α} {m : List β} {a : α} {b : β} (h : Fa R l m) (r : R a b) : Fa R (l ++ [a]) (m ++ [b]) := by
  induction h with
  | nil => exact .cons r .nil
  | cons r' _ ih => exact .cons r' ih
theorem Fa.mem {R : α → β → Prop} {l : List α} {m : List β} (h : Fa R l m) : ∀ b ∈ m, ∃ a ∈ l, R a b := by
  induction h with
  | nil => intro b hb; cases hb
  | cons r _ ih =>
    intro b hb
    rcases List.mem_cons.mp hb with e | hb
    · subst e; exact ⟨_, List.mem_cons_self .., r⟩
    · obtain ⟨a, ha, r⟩ := ih b hb
      exact ⟨a, List.mem_cons_of_mem _ ha, r⟩
/-- all items, each made in its ways -/
theorem el_lcW {δ : Type} {wi : TI} {g : TG} {vs : List Nat} {xs : α → List δ} {ea : δ → Itm} {eb : γ → PyData} {R : α → δ → γ → Prop} (h : Eiw c ρ wi (fun a => (xs a).map ea) P ρ1) (hsz : ∀ x, P x → (xs x).length ≤ 100000) (hvs : ∀ j ∈ vs, ρ1[j]? = some .no)
    (turn : ∀ (S : List Addr) (B : Hp) (a : α) (x : δ), P a → x ∈ xs a → ∃ ρa, Nz.wipeS ρa vs = ρ1 ∧ Eg (c.at S B) g (ea x) ρ1 ρa vs ∧ Ew (c.at S B) ρa te eb (R a x) ρa) :
    EwL c ρ (tLc wi g tYes te vs) (fun l : List γ => l.map eb) (fun l => ∃ a, P a ∧ Fa (R a) (xs a) l) ρ1 := fun T σ H W Q q => by
  refine el_lcN (c := c) (tt := tYes) (te := te) (vs := vs) h (fun a i acc => ∃ l : List γ, acc = l.map eb ∧ Fa (R a) ((xs a).take i) l) (fun a _ => ⟨[], rfl, by rw [List.take_zero]; exact .nil⟩) (fun a pa => by rw [List.length_map]; exact hsz a pa) hvs (fun S B a i d acc pa hd ⟨l, hl, hf⟩ => ?_) T σ H W Q (fun l p H' ⟨a, pa, l', e, hf⟩ h1 h2 h3 W1 => ?_)
  · rw [List.getElem?_map] at hd
    cases hx : (xs a)[i]? with
    | none => rw [hx] at hd; cases hd
    | some x =>
      rw [hx] at hd
      have hd : ea x = d := Option.some.inj hd
      subst hd
      obtain ⟨ρa, hw, g1, g2⟩ := turn S B a x pa (List.mem_of_getElem? hx)
      refine ⟨ρa, fun b => b = true, hw, g1, fun T σ H W Q q => q true H rfl W, fun _ => ew_as g2 fun z hz => ⟨eb z, ⟨l ++ [z], by rw [hl, List.map_append]; rfl, ?_⟩, rfl⟩, fun e => by cases e⟩
      rw [List.take_add_one, hx]
      exact hf.snoc hz
  · subst e
    rw [List.length_map, List.take_length] at hf
    exact q l' p H' ⟨a, pa, hf⟩ h1 h2 h3 W1
/-! ### statements -/
variable {D : Ends} {ts tu : TS} {gt : TG} {nx bk ct : L2.St → Hp → Prop} {rt : VK}
theorem s_asgGW {ws : List Nat} {ρ2 : α → List Sl} (h : Ew c ρ te f P ρ1) (hg : ∀ x, P x → Eg c gt (.hard (f x)) ρ1 (ρ2 x) ws) (k : ∀ x, P x → Sk c T (ρ2 x) nx) : Ss c T ρ (tAsg te gt) ⟨nx, rt, bk, ct⟩ := fun σ H W => h T σ H W _ fun x v H1 px W1 => hg x px T σ H1 v W1 _ fun σ2 H2 W2 _ => k x px σ2 H2 W2
theorem s_asgW {i : Nat} (h : Ew c ρ te f P ρ1) (k : ∀ x, P x → Sk c T (ρ1.set i (.da (f x))) nx) : Ss c T ρ (tAsg te (gName i)) ⟨nx, rt, bk, ct⟩ := s_asgGW (ws := [i]) (ρ2 := fun x => ρ1.set i (.da (f x))) h (fun x _ => eg_name (List.mem_cons_self ..)) k
theorem s_asgMW {i : Nat} {f : α → List PyData} (h : EwL c ρ te f P ρ1) (k : ∀ x, P x → ∀ p, Sk c T (ρ1.set i (.mu true p (.lst (f x)))) nx) : Ss c T ρ (tAsg te (gName i)) ⟨nx, rt, bk, ct⟩ := fun σ H W =>
  h T σ H W _ fun x p H1 px hB hn mo W1 => k x px p _ _ (W1.setM W.sub i (by rw [if_pos rfl]; exact hB) hn mo)
theorem s_parW {i j : Nat} {ta tb : TE} (h : Ew c ρ ta f P ρ1) (h2 : Ew c ρ1 tb g P2 ρ2) (k : ∀ x y, P x → P2 y → Sk c T ((ρ2.set i (.da (f x))).set j (.da (g y))) nx) : Ss c T ρ (tPar i j (tCons ta (tCons tb tNil))) ⟨nx, rt, bk, ct⟩ := fun σ H W =>
  h T σ H W _ fun x v H1 px W1 => h2 _ σ H1 W1 _ fun y w H2 py W2 => by
    refine ⟨v, w, rfl, ?_⟩
    have W3 : Wd c ((v, f x) :: T) H2 σ ρ2 := W2.pop
    have W4 := W2.setD i W3.dp
    have W5 := W4.setD j W4.dp
    exact k x y px py _ _ W5.pop.pop
theorem s_ifW {A : Bool → Prop} (h : Ewt c ρ t A ρ1) (h1 : A true → Ss c T ρ1 ts D) (h2 : A false → Ss c T ρ1 tu D) : Ss c T ρ (tIfS t ts tu) D := fun σ H W => h T σ H W _ fun b H1 hb W1 => by
  cases b with
  | true => exact h1 hb σ H1 W1
  | false => exact h2 hb σ H1 W1
theorem s_dropW (h : Ew c ρ te f P ρ1) (k : ∀ x, P x → Sk c T ρ1 nx) : Ss c T ρ (tDrop te) ⟨nx, rt, bk, ct⟩ := fun σ H W => h T σ H W _ fun x v H1 px W1 => k x px σ H1 W1.pop
theorem s_open {i : Nat} {l : Bool} {a : Addr} {P : List PyData → Prop} {nx : L2.St → Hp → Prop} (h : ρ[i]? = some (.mu l a (.any P))) (k : ∀ ds, P ds → Sk c T (ρ.set i (.mu l a (.lst ds))) nx) : Sk c T ρ nx := fun σ H W => by
  obtain ⟨_, _, xs, h1, ds, p, h2⟩ := W.ok i _ h
  exact k ds p σ H (W.chg h (fun _ _ _ e => e) ⟨xs, h1, h2⟩)
/-- what a def that draws must return -/
def RtW (c : Cz) (a : Addr) (Φ : PyData → Prop) (rt : VK) : Prop := ∀ d, Φ d → Rt c d [(a, .any StOk)] rt
theorem s_retW {i : Nat} {l : Bool} {a : Addr} {Φ : PyData → Prop} (h : Ew c ρ te f P ρ1) (hi : ρ1[i]? = some (.mu l a (.any StOk))) (hr : RtW c a Φ D.rt) (hp : ∀ x, P x → Φ (f x)) : Ss c T ρ (tRet te) D := fun σ H W => h T σ H W _ fun x v H1 px W1 =>
  hr (f x) (hp x px) v H1 W1.keep (fun p hp => by
    simp only [List.mem_singleton] at hp
    subst hp
    exact (W1.ok i _ hi).2.2.mono hide_S0 rfl) (dpm hide_S0 W1.dp)
/-- a for that draws: its state is any that holds -/
theorem s_forN {β : Type} {wi : TI} {tbd : TS} (xs : List α) (ea : α → Itm) (h : Ei c ρ wi (xs.map ea) ρ1) (P : Nat → β → Prop) (I : Nat → β → List Sl) (b0 : β) (hP : P 0 b0) (h0 : Le ρ1 (I 0 b0))
    (hs : ∀ (T' : Tm), (∀ p ∈ T, p ∈ T') → ∀ (i : Nat) (x : α) (b : β), xs[i]? = some x → P i b → ∃ ρa ws, Eg c gt (ea x) (I i b) ρa ws ∧ Ss c T' ρa tbd ⟨fun σ H => ∃ b', P (i + 1) b' ∧ Wd c T' H σ (I (i + 1) b'), rt, nx, fun σ H => ∃ b', P (i + 1) b' ∧ Wd c T' H σ (I (i + 1) b')⟩)
    (hd : ∀ b, P xs.length b → Sk c T (I xs.length b) nx) : Ss c T ρ (tFor wi gt tbd) ⟨nx, rt, bk, ct⟩ := fun σ H W => h T σ H W _ fun J H1 T1 W1 hw => by
  rw [← List.length_map (f := ea)] at hd
  refine ⟨fun i m σ' H' => i + m = (xs.map ea).length ∧ ∃ b, P i b ∧ Wd c (T1 ++ T) H' σ' (I i b), ⟨(xs.map ea).length, by omega, b0, hP, W1.le h0⟩, fun i m σ' H' ⟨hm, b, pb, W2⟩ => ?_⟩
  have hwk := hw c T σ' H' (I i b) rfl W2
  by_cases hi : i < (xs.map ea).length
  · refine .inr ⟨(hwk.1 i hi).1, fun σ3 H3 => ∃ b', P (i + 1) b' ∧ Wd c (T1 ++ T) H3 σ3 (I (i + 1) b'), fun σ3 H3 h3 => ⟨m - 1, by omega, by omega, h3⟩, fun x H3 hy => ?_⟩
    obtain ⟨d, hd', W3⟩ := (hwk.1 i hi).2 x H3 hy
    rw [List.getElem?_map] at hd'
    cases hx : xs[i]? with
    | none => rw [hx] at hd'; cases hd'
    | some z =>
      rw [hx] at hd'
      have hd' : ea z = d := Option.some.inj hd'
      subst hd'
      obtain ⟨ρa, ws, g1, g2⟩ := hs (T1 ++ T) (fun p hp => List.mem_append_right _ hp) i z b hx pb
      exact g1 _ σ' H3 x W3 _ fun σ4 H4 W4 _ => g2 σ4 H4 W4
  · have ei : i = (xs.map ea).length := by omega
    subst ei
    exact .inl ⟨hwk.2 _ (Nat.le_refl _), hd b pb σ' H' (W2.tmps fun p hp => List.mem_append_right _ hp)⟩
theorem s_endN {β : Type} {P : β → Prop} {I : β → List Sl} (b' : β) (hP : P b') (h : Le ρ (I b')) : Sk c T ρ (fun σ H => ∃ b', P b' ∧ Wd c T H σ (I b')) := fun σ H W => ⟨b', hP, W.le h⟩
end
/-! ### a def that draws -/
theorem startW {K : PySem.W.Frag} {N : List Str} {vs : List V} {ds : List PyData} {S : List Addr} {H : Hp} {a : Addr} (hd : ∀ a ∈ S, ∃ o, H a = some o) (hm : a ∈ S) (mo : MoOk K S H a (.any StOk)) (da : DzAll K (hide S H) vs ds) (hl : ds.length + 1 ≤ N.length) :
    Wd ⟨K, H, [a], S⟩ [] H (L2.start N (.ref a :: vs)) (.mu false a (.any StOk) :: (ds.map .da ++ List.replicate (N.length - (ds.length + 1)) .no)) := by
  have W0 := start_wd (M := []) (N := N.drop 1) hd da (by rw [List.length_drop]; omega)
  have nm : ∀ (i : Nat) (l : Bool) (b : Addr) (o : MO), (ds.map Sl.da ++ List.replicate (N.length - (ds.length + 1)) Sl.no)[i]? ≠ some (.mu l b o) := fun i l b o e => by
    have := List.mem_of_getElem? e
    simp at this
  have hid0 : ∀ b, b ∈ hid ⟨K, H, [a], S⟩ (.mu false a (.any StOk) :: (ds.map Sl.da ++ List.replicate (N.length - (ds.length + 1)) Sl.no)) → b ∈ S := fun b m => by
    rcases List.mem_append.mp m with m | m
    · exact m
    · obtain ⟨i, l, o, e⟩ := mem_muts.mp m
      cases i with
      | zero => cases e; exact hm
      | succ i => exact absurd e (nm i l b o)
  have hid1 : ∀ b, b ∈ S → b ∈ hid ⟨K, H, [a], S⟩ (.mu false a (.any StOk) :: (ds.map Sl.da ++ List.replicate (N.length - (ds.length + 1)) Sl.no)) := fun b m => List.mem_append_left _ m
  have e1 : Ex (hide S H) (hide (hid ⟨K, H, [a], S⟩ (.mu false a (.any StOk) :: (ds.map Sl.da ++ List.replicate (N.length - (ds.length + 1)) Sl.no))) H) := hide_mono fun b o n h => ⟨fun m => n (hid0 b m), h⟩
  have hN : (N.drop 1).length - ds.length = N.length - (ds.length + 1) := by rw [List.length_drop]; omega
  have st : L2.start N (.ref a :: vs) = some (.ref a) :: L2.start (N.drop 1) vs := by
    unfold L2.start
    rw [List.map_cons, List.cons_append, List.length_cons, List.length_drop]
    have : N.length - (vs.length + 1) = N.length - 1 - vs.length := by omega
    rw [this]
  rw [st]
  rw [hN] at W0
  refine ⟨?_, fun b o _ h => h, fun b m => by simp at m; rw [m]; exact hm, hd, fun p hp => (nomatch hp), fun i j l m b o u h1 h2 => ?_, fun i b o h => ?_, fun i s e => ?_⟩
  · have := W0.len
    simp only [List.length_cons]
    rw [this]
  · cases i with
    | zero =>
      cases j with
      | zero => rfl
      | succ j => exact absurd h2 (nm j m b u)
    | succ i => exact absurd h1 (nm i l b o)
  · cases i with
    | zero => cases h
    | succ i => exact absurd h (nm i true b o)
  · cases i with
    | zero => cases e; exact ⟨rfl, by simp, mo.mono e1 rfl⟩
    | succ i =>
      have ok := W0.ok i s e
      have hh : hid ⟨K, H, [], S⟩ (ds.map Sl.da ++ List.replicate (N.length - (ds.length + 1)) Sl.no) = S := by
        have z : muts (ds.map Sl.da ++ List.replicate (N.length - (ds.length + 1)) Sl.no) = [] := by
          apply List.eq_nil_iff_forall_not_mem.mpr
          intro b m
          obtain ⟨i, l, o, e⟩ := mem_muts.mp m
          exact nm i l b o e
        show S ++ muts _ = S
        rw [z, List.append_nil]
      rw [hh] at ok
      have := slOk_mono (H' := H) e1 (fun _ _ => rfl) ok
      cases s with
      | mu l b o => exact absurd e (nm i l b o)
      | _ => exact this
theorem fn_draws {K : PySem.W.Frag} {R : List PyData → (PyData → Prop) → Prop} {N : List Str} {ts : TS} (hN : ∀ ds Φ, R ds Φ → ds.length + 1 ≤ N.length)
    (h : ∀ (B : Hp) (S : List Addr) (a : Addr) (ds : List PyData) (Φ : PyData → Prop), R ds Φ → ∀ D : Ends, RtW ⟨K, B, [a], S⟩ a Φ D.rt → Ss ⟨K, B, [a], S⟩ [] (.mu false a (.any StOk) :: (ds.map .da ++ List.replicate (N.length - (ds.length + 1)) .no)) ts D)
    (vs : List V) (H : Hp) (Q : VK) (E : XK) (hs : SpW K R vs H Q E) : ts { nx := fun _ H' => Q .non H', rt := Q } (L2.start N vs) H := by
  obtain ⟨S, a, vs', ds, Φ, rfl, hm, hd, mo, da, hR, q⟩ := hs
  refine h H S a ds Φ hR { nx := fun _ H' => Q .non H', rt := Q } (fun d hd v H' k ms dp => q d v H' hd (fun b o n e => k b o (by simpa using n) e) (ms (a, .any StOk) (List.mem_cons_self ..)) dp) _ _ (startW hd hm mo da (hN _ _ hR))
theorem spW_len {K : PySem.W.Frag} {Rl : List PyData → (PyData → Prop) → Prop} {ps : List Str} (h : ∀ ds Φ, Rl ds Φ → ds.length + 1 = ps.length) : ∀ vs H Q, SpW K Rl vs H Q E0 → vs.length = ps.length := fun vs H Q ⟨S, a, vs', ds, Φ, e, _, _, _, da, r, _⟩ => by
  rw [e, List.length_cons, dpa_length da]; exact h ds Φ r
/-! ### a def that returns a new list -/
def SpL (K : PySem.W.Frag) (R : List PyData → List PyData → Prop) : Sp := fun vs H Q _ => ∃ (S : List Addr) (ds es : List PyData), (∀ a ∈ S, ∃ o, H a = some o) ∧ DzAll K (hide S H) vs ds ∧ R ds es ∧
  ∀ p H', Ex H H' → H p = none → MoOk K (p :: S) H' p (.lst es) → Q (.ref p) H'
theorem spL_len {K : PySem.W.Frag} {Rl : List PyData → List PyData → Prop} {ps : List Str} (h : ∀ ds d, Rl ds d → ds.length = ps.length) : ∀ vs H Q, SpL K Rl vs H Q E0 → vs.length = ps.length := fun vs H Q ⟨S, ds, d, _, a, r, _⟩ => (dpa_length a).trans (h ds d r)
def RtL (c : Cz) (es : List PyData) (rt : VK) : Prop := ∀ p H', (∀ a o, a ∉ c.M → c.B a = some o → H' a = some o) → c.B p = none → MoOk c.K (p :: c.S0) H' p (.lst es) → rt (.ref p) H'
theorem s_retL {c : Cz} {T : Tm} {ρ ρ1 : List Sl} {te : TE} {es : List PyData} {D : Ends} (h : EdL c ρ te es ρ1) (hr : RtL c es D.rt) : Ss c T ρ (tRet te) D := fun σ H W => h T σ H W _ fun p H1 hB hn mo W1 => hr p H1 W1.keep hB (by
  obtain ⟨xs, h1, h2⟩ := mo
  exact ⟨xs, h1, dpam (hide_mono fun a o n h => ⟨fun m => n (by
    rcases List.mem_cons.mp m with e | m
    · rw [e]; exact List.mem_cons_self ..
    · exact List.mem_cons_of_mem _ (List.mem_append_left _ m)), h⟩) h2⟩)
theorem fn_new {K : PySem.W.Frag} {R : List PyData → List PyData → Prop} {N : List Str} {ts : TS} (hN : ∀ ds d, R ds d → ds.length ≤ N.length)
    (h : ∀ (B : Hp) (S : List Addr) (ds es : List PyData), R ds es → ∀ D : Ends, RtL ⟨K, B, [], S⟩ es D.rt → Ss ⟨K, B, [], S⟩ [] (ds.map .da ++ List.replicate (N.length - ds.length) .no) ts D)
    (vs : List V) (H : Hp) (Q : VK) (E : XK) (hs : SpL K R vs H Q E) : ts { nx := fun _ H' => Q .non H', rt := Q } (L2.start N vs) H := by
  obtain ⟨S, ds, es, hd, a, hR, q⟩ := hs
  exact h H S ds es hR { nx := fun _ H' => Q .non H', rt := Q } (fun p H' k hB mo => q p H' (fun a o e => k a o (fun m => nomatch m) e) hB mo) _ _ (start_wd (M := []) hd a (hN _ _ hR))
theorem Wd.hideNew' {c : Cz} {T : Tm} {H H' : Hp} {σ : L2.St} {ρ : List Sl} {p : Addr} {o : HO} (W : Wd c T H σ ρ) (e : Ex H H') (h : H p = none) (h' : H' p = some o) : Wd (c.hidden p) T H' σ ρ := by
  have W2 := W.grow e
  have n := W.fresh h
  have e2 : Ex (hide (hid c ρ) H) (hide (hid (c.hidden p) ρ) H') := hide_mono fun a u m q => ⟨fun z => by
    rcases List.mem_cons.mp z with z | z
    · rw [z, h] at q; cases q
    · exact m z, e a u q⟩
  refine ⟨W.len, W2.keep, fun a m => List.mem_cons_of_mem _ (W.sub a m), fun a m => ?_, fun q hq => dpm e2 (W.tmp q hq), W.inj, fun i a u q m => ?_, fun i s m => ?_⟩
  · rcases List.mem_cons.mp m with m | m
    · rw [m]; exact ⟨o, h'⟩
    · exact W2.dom a m
  · rcases List.mem_cons.mp m with m | m
    · obtain ⟨z, hz⟩ := (W.ok i _ q).2.2.there
      rw [m, h] at hz; cases hz
    · exact W.ap i a u q m
  · have := slOk_mono (c := c) (H' := H') e2 (fun a q => by
      cases s with
      | mu l b o' =>
        cases q
        obtain ⟨u, hu⟩ := (W.ok i _ m).2.2.there
        rw [hu, e _ _ hu]
      | _ => cases q) (W.ok i s m)
    cases s <;> exact this
theorem el_callL {c : Cz} {ρ ρ1 : List Sl} {R : List PyData → List PyData → Prop} {ts : TA} {ds es : List PyData} {E : XK} (h : Ea c ρ ts (ds.map .dat) ρ1) (hR : R ds es) : EdL c ρ (tCall (SpL c.K R) [] E ts) es ρ1 := fun T σ H W Q q => h T σ H W _ fun vs H1 a W1 => by
  rw [List.append_nil]
  refine ⟨hid c ρ1, ds, es, fun a h => W1.there h, aa_dats a, hR, fun p H' e hp mo => ?_⟩
  obtain ⟨xs, h1, h2⟩ := mo
  exact q p H' (W1.freshB hp) (W1.fresh hp) ⟨xs, h1, h2⟩ (W1.hideNew' e hp h1)
/-! #### a[i] op= b -/
section
variable {X : Cx}
theorem get_listG : PGet X (rGetG X.K) := by
  intro pins s σ H x y v u Q I rx ry h
  obtain ⟨p, xs, i, z, rfl, rfl, hq, he, q⟩ := h
  cases rx
  obtain ⟨t, rfl⟩ := ry
  obtain ⟨its, r, pl, hz⟩ := I.list hq
  obtain ⟨j, h1, h2, h3, h4, h5⟩ := atI_get he
  obtain ⟨w, ew, rw'⟩ := r.get h2
  have hl := r.length
  have hn := line63
  have fin : EP X pins σ Q w s := ⟨z, H, I, rw', q⟩
  by_cases h0 : 0 ≤ i
  · have hj : i.toNat = j := by
      rw [seqIndex_of h0 h5] at h1
      exact Option.some.inj h1
    exact PySem.wpAny_getItem_list pl.isList h0 (by omega) (by rw [hj]; simpa using ew) fin
  · have hj : (i + (its.toArray.size : Int)).toNat = j := by
      rw [seqIndex_neg (by omega) h4] at h1
      rw [List.size_toArray, ← hl]
      exact Option.some.inj h1
    exact PySem.wpAny_getItem_list_neg pl.isList (by omega) (by rw [List.size_toArray] <;> omega) (by omega) (by rw [hj]; simpa using ew) fin
theorem ix_any : IxR X (fun x y H Q => rIxL X.K x y H Q ∨ rIxT X.K x y H Q) := ix_list.or ix_tup
end
section
variable {c : Cz} {ρ ρ1 ρ2 : List Sl} {ta tb te : TE} {d : PyData} {T : Tm} {D : Ends} {nx bk ct : L2.St → Hp → Prop} {rt : VK}
theorem s_augSX {i : Nat} {l : Bool} {a : Addr} {f : Int → Int → Int} {xs : List Int} {j y : Int} (hj : Ed c ρ tb (.int j) ρ1) (h : Ed c ρ1 te (.int y) ρ2) (h0 : ∃ l o, ρ[i]? = some (.mu l a o)) (ha : ρ1[i]? = some (.mu l a (.lst (xs.map .int))))
    (ha2 : ρ2[i]? = some (.mu l a (.lst (xs.map .int)))) (hn : 0 ≤ j ∧ j < xs.length) (k : Sk c T (ρ2.set i (.mu l a (.lst ((xs.set j.toNat (f (ixG xs j) y)).map .int)))) nx) : Ss c T ρ (tAugS (tVar i) tb te (rGetG c.K) (ipI f) rSetL) ⟨nx, rt, bk, ct⟩ := fun σ H W => by
  obtain ⟨l0, o0, h0⟩ := h0
  refine ⟨.ref a, (W.ok i _ h0).1, hj T σ H W _ fun w H1 W1 => ?_⟩
  obtain ⟨_, _, ys, h1, h2⟩ := W1.ok i _ ha
  have hix : atI (xs.map PyData.int) j = some (PyData.int (ixG xs j)) := ix_some (f := PyData.int) ⟨by omega, hn.2⟩
  obtain ⟨v, h3, h4⟩ := atI_dp h2 hix
  refine ⟨a, ys, j, v, rfl, dp_int W1.dp, sq_of h1, h3, h _ σ H1 W1 _ fun w2 H2 W2 => ⟨ixG xs j, y, dp_int h4, dp_int W2.dp, ?_⟩⟩
  obtain ⟨_, _, zs, h5, h6⟩ := W2.ok i _ ha2
  refine ⟨a, zs, j, j.toNat, rfl, dp_int W2.pop.dp, h5, by rw [dpa_length h6]; exact ixN_nn (by rw [List.length_map]; exact hn), ?_⟩
  refine k _ _ (W2.pop.pop.updM ha2 ⟨zs.set j.toNat (.int (f (ixG xs j) y)), upd_same, ?_⟩)
  have hm : a ∈ hid c ρ2 := List.mem_append_right _ (mem_muts.mpr ⟨i, l, _, ha2⟩)
  have e5 : Ex (hide (hid c ρ2) H2) (hide (hid c ρ2) (upd H2 a (.lst (zs.set j.toNat (.int (f (ixG xs j) y)))))) := hide_mono fun b o nb e => ⟨nb, by rw [upd_ne (fun q => nb (by rw [q]; exact hm))]; exact e⟩
  rw [List.map_set]
  exact dpam e5 (dpa_set _ h6 (.int _))
end
/-! #### drawing, picking -/
def R_draw : List PyData → (PyData → Prop) → Prop := fun ds Φ => ∃ many : Int, ds = [.int many] ∧ 0 < many ∧ many < 2 ^ 30 ∧ ∀ x : Int, (0 ≤ x ∧ x < many) → Φ (.int x)
def R_pick : List PyData → (PyData → Prop) → Prop := fun ds Φ => ∃ l : List PyData, (ds = [.list l] ∨ ds = [.tuple l]) ∧ 0 < l.length ∧ l.length < 2 ^ 30 ∧ ∀ d ∈ l, Φ d
def seedOf (script : List Int) : Nat := script.foldl (fun seed cell => (((seed : Int) * 48271 + cell) % 2147483629).toNat + 1) 7
theorem seedOf_step {script : List Int} {i : Nat} {x : Int} (h : script[i]? = some x) : ((seedOf (script.take i) : Nat) : Int) * 48271 + x = ((seedOf (script.take i) : Nat) : Int) * 48271 + x ∧ ((((seedOf (script.take i) : Nat) : Int) * 48271 + x) % 2147483629 + 1 = ((seedOf (script.take (i + 1)) : Nat) : Int)) := by
  refine ⟨rfl, ?_⟩
  unfold seedOf
  rw [List.take_add_one, h, List.foldl_append]
  simp only [Option.toList, List.foldl_cons, List.foldl_nil]
  have := Int.emod_nonneg ((List.foldl (fun seed cell => (((seed : Int) * 48271 + cell) % 2147483629).toNat + 1) 7 (script.take i) : Nat) * 48271 + x) (show (2147483629 : Int) ≠ 0 by decide)
  omega
section
variable {c : Cz} {ρ ρ1 ρ2 : List Sl} {ta tb te : TE} {α β γ : Type} {P : α → Prop}
theorem ew_draw {i : Nat} {l : Bool} {a : Addr} {P : Int → Prop} {E : XK} (h : Ew c ρ te PyData.int P ρ1) (hi0 : ρ[i]? = some (.mu l a (.any StOk))) (hi : ρ1[i]? = some (.mu l a (.any StOk))) (hp : ∀ m, P m → 0 < m ∧ m < 2 ^ 30) :
    Ew c ρ (tCall (SpW c.K R_draw) [] E (tCons (tVar i) (tCons te tNil))) PyData.int (fun x => ∃ m, P m ∧ 0 ≤ x ∧ x < m) ρ1 :=
  ew_imp (ew_callW (e := PyData.int) (P3 := fun (p : Int × Unit) x => 0 ≤ x ∧ x < p.1) (ds := fun p : Int × Unit => [.int p.1]) (ewa_raw hi0 (ewa_cons h ewa_nil)) hi (fun x px => ⟨x.1, rfl, (hp _ px.1).1, (hp _ px.1).2, fun y hy => ⟨y, hy, rfl⟩⟩)) fun y ⟨p, hp, hy⟩ => ⟨p.1, hp.1, hy⟩
theorem mem_ix {l : List PyData} {x : Int} {d : PyData} (h : atI l x = some d) : d ∈ l := by
  unfold atI at h
  cases q : ixN l.length x with
  | none => rw [q] at h; cases h
  | some j => rw [q] at h; exact List.mem_of_getElem? h
theorem ew_ixAny {ds : List PyData} {s : PyData} {P : Int → Prop} (hs : s = .list ds ∨ s = .tuple ds) (ha : Ed c ρ ta s ρ1) (hb : Ew c ρ1 tb PyData.int P ρ2) (hp : ∀ x, P x → 0 ≤ x ∧ x < ds.length) :
    Ew c ρ (tOp (fun x y H Q => rIxL c.K x y H Q ∨ rIxT c.K x y H Q) ta tb) (fun d => d) (fun d => d ∈ ds) ρ2 := fun T σ H W Q q => ha T σ H W _ fun v H1 W1 => hb _ σ H1 W1 _ fun x w H2 px W2 => by
  have hx := hp x px
  obtain ⟨d0, e⟩ : ∃ d0, atI ds x = some d0 := ⟨ds[x.toNat]'(by omega), by
    unfold atI; rw [ixN_nn hx]
    show ds[x.toNat]? = _
    exact List.getElem?_eq_getElem (by omega)⟩
  rcases hs with rfl | rfl
  · obtain ⟨a, xs, rfl, hs, h2⟩ := dp_lst W2.pop.dp
    obtain ⟨z, h3, h4⟩ := atI_dp h2 e
    exact .inl ⟨a, xs, x, z, rfl, dp_int W2.dp, ex_l (hide_ex _ _) hs, h3, q _ z H2 (mem_ix e) (W2.pop.pop.push h4)⟩
  · obtain ⟨a, xs, rfl, hs, h2⟩ := dp_tup W2.pop.dp
    obtain ⟨z, h3, h4⟩ := atI_dp h2 e
    exact .inr ⟨a, xs, x, z, rfl, dp_int W2.dp, (ex_p (hide_ex _ _) hs).sq, h3, q _ z H2 (mem_ix e) (W2.pop.pop.push h4)⟩
/-- _law_pick(state, list) -/
theorem ew_pickL {i : Nat} {l : Bool} {a : Addr} {f : α → PyData} {P : List α → Prop} {E : XK} (h : Ew c ρ te (fun l : List α => .list (l.map f)) P ρ1) (hi0 : ρ[i]? = some (.mu l a (.any StOk))) (hi : ρ1[i]? = some (.mu l a (.any StOk))) (hp : ∀ m, P m → 0 < m.length ∧ m.length < 2 ^ 30) :
    Ew c ρ (tCall (SpW c.K R_pick) [] E (tCons (tVar i) (tCons te tNil))) f (fun x => ∃ m, P m ∧ x ∈ m) ρ1 :=
  ew_imp (ew_callW (e := f) (P3 := fun (p : List α × Unit) x => x ∈ p.1) (ds := fun p : List α × Unit => [.list (p.1.map f)]) (ewa_raw hi0 (ewa_cons h ewa_nil)) hi (fun x px => ⟨x.1.map f, .inl rfl, by rw [List.length_map]; exact (hp _ px.1).1, by rw [List.length_map]; exact (hp _ px.1).2, fun d hd => by
    obtain ⟨z, hz, e⟩ := List.mem_map.mp hd
    exact ⟨z, hz, e.symm⟩⟩)) fun y ⟨p, hp, hy⟩ => ⟨p.1, hp.1, hy⟩
theorem ew_pickT {i : Nat} {l : Bool} {a : Addr} {f : α → PyData} {P : List α → Prop} {E : XK} (h : Ew c ρ te (fun l : List α => .tuple (l.map f)) P ρ1) (hi0 : ρ[i]? = some (.mu l a (.any StOk))) (hi : ρ1[i]? = some (.mu l a (.any StOk))) (hp : ∀ m, P m → 0 < m.length ∧ m.length < 2 ^ 30) :
    Ew c ρ (tCall (SpW c.K R_pick) [] E (tCons (tVar i) (tCons te tNil))) f (fun x => ∃ m, P m ∧ x ∈ m) ρ1 :=
  ew_imp (ew_callW (e := f) (P3 := fun (p : List α × Unit) x => x ∈ p.1) (ds := fun p : List α × Unit => [.tuple (p.1.map f)]) (ewa_raw hi0 (ewa_cons h ewa_nil)) hi (fun x px => ⟨x.1.map f, .inr rfl, by rw [List.length_map]; exact (hp _ px.1).1, by rw [List.length_map]; exact (hp _ px.1).2, fun d hd => by
    obtain ⟨z, hz, e⟩ := List.mem_map.mp hd
    exact ⟨z, hz, e.symm⟩⟩)) fun y ⟨p, hp, hy⟩ => ⟨p.1, hp.1, hy⟩
end
end Nz

/-! what gen.py names for defs that draw -/
namespace Nz
open PySem PySem.Spec PyProof.Rows L2 RZ
section
variable {c : Cz} {ρ ρ1 ρ2 ρ3 : List Sl} {ta tb te tx : TE} {t u : TT} {d d1 d2 d3 : PyData} {T : Tm} {H H' : Hp} {σ : L2.St}
variable {α β γ : Type} {f : α → PyData} {g : β → PyData} {e : γ → PyData} {P : α → Prop} {P2 : β → Prop} {P3 : γ → Prop}
theorem ew_drawD {i : Nat} {l : Bool} {a : Addr} {m : Int} {E : XK} (h : Ed c ρ te (.int m) ρ1) (hi0 : ρ[i]? = some (.mu l a (.any StOk))) (hi : ρ1[i]? = some (.mu l a (.any StOk))) (hp : 0 < m ∧ m < 2 ^ 30) :
    Ew c ρ (tCall (SpW c.K R_draw) [] E (tCons (tVar i) (tCons te tNil))) PyData.int (fun x => 0 ≤ x ∧ x < m) ρ1 :=
  ew_imp (ew_draw (ew_det (f := PyData.int) h) hi0 hi (fun n e => by subst e; exact hp)) fun x ⟨n, e, hx⟩ => by subst e; exact hx
theorem ew_pickLD {i : Nat} {l : Bool} {a : Addr} {f : α → PyData} {m : List α} {E : XK} (h : Ed c ρ te (.list (m.map f)) ρ1) (hi0 : ρ[i]? = some (.mu l a (.any StOk))) (hi : ρ1[i]? = some (.mu l a (.any StOk))) (hp : 0 < m.length ∧ m.length < 2 ^ 30) :
    Ew c ρ (tCall (SpW c.K R_pick) [] E (tCons (tVar i) (tCons te tNil))) f (fun x => x ∈ m) ρ1 :=
  ew_imp (ew_pickL (f := f) (ew_det (f := fun l : List α => .list (l.map f)) h) hi0 hi (fun n e => by subst e; exact hp)) fun x ⟨n, e, hx⟩ => by subst e; exact hx
theorem ew_pickTD {i : Nat} {l : Bool} {a : Addr} {f : α → PyData} {m : List α} {E : XK} (h : Ed c ρ te (.tuple (m.map f)) ρ1) (hi0 : ρ[i]? = some (.mu l a (.any StOk))) (hi : ρ1[i]? = some (.mu l a (.any StOk))) (hp : 0 < m.length ∧ m.length < 2 ^ 30) :
    Ew c ρ (tCall (SpW c.K R_pick) [] E (tCons (tVar i) (tCons te tNil))) f (fun x => x ∈ m) ρ1 :=
  ew_imp (ew_pickT (f := f) (ew_det (f := fun l : List α => .tuple (l.map f)) h) hi0 hi (fun n e => by subst e; exact hp)) fun x ⟨n, e, hx⟩ => by subst e; exact hx
theorem ew_callWD {R : List PyData → (PyData → Prop) → Prop} {ts : TA} {ds : List PyData} {E : XK} {i : Nat} {l : Bool} {a : Addr} (h : Ea c ρ ts (.raw (.ref a) :: ds.map .dat) ρ1) (hi : ρ1[i]? = some (.mu l a (.any StOk)))
    (hR : R ds (fun d => ∃ z, P3 z ∧ d = e z)) : Ew c ρ (tCall (SpW c.K R) [] E ts) e P3 ρ1 :=
  ew_imp (ew_callW (e := e) (P3 := fun (_ : Unit) z => P3 z) (ds := fun _ => ds) (ewa_det (x := ()) (as := fun _ => .raw (.ref a) :: ds.map .dat) h) hi (fun _ _ => hR)) fun z ⟨_, _, hz⟩ => hz
theorem ed_sumM {xs : List Int} {j : Nat} {l : Bool} {a : Addr} (ha : ρ[j]? = some (.mu l a (.lst (xs.map .int)))) : Ed c ρ (tCB (rSumT c.K) (tCons (tVar j) tNil)) (.int xs.sum) ρ := fun T σ H W Q q => by
  obtain ⟨h0, _, ys, h1, h2⟩ := W.ok j _ ha
  have := dpaInts h2
  subst this
  exact ⟨.ref a, h0, a, xs, rfl, .inr (sq_of h1), q _ H (W.push (.int _))⟩
theorem el_lcW1 {δ : Type} {wi : TI} {g : TG} {vs : List Nat} {xs : List δ} {ea : δ → Itm} {eb : γ → PyData} {R : δ → γ → Prop} (h : Ei c ρ wi (xs.map ea) ρ1) (hsz : xs.length ≤ 100000) (hvs : ∀ j ∈ vs, ρ1[j]? = some .no)
    (turn : ∀ (S : List Addr) (B : Hp) (x : δ), x ∈ xs → ∃ ρa, Nz.wipeS ρa vs = ρ1 ∧ Eg (c.at S B) g (ea x) ρ1 ρa vs ∧ Ew (c.at S B) ρa te eb (R x) ρa) :
    EwL c ρ (tLc wi g tYes te vs) (fun l : List γ => l.map eb) (fun l => Fa R xs l) ρ1 := fun T σ H W Q q =>
  el_lcW (xs := fun _ : Unit => xs) (R := fun _ => R) (eiw_det (x := ()) (its := fun _ => xs.map ea) h) (fun _ _ => hsz) hvs (fun S B _ x _ hx => turn S B x hx) T σ H W Q fun l p H' ⟨_, _, hf⟩ => q l p H' hf
variable {D : Ends} {nx bk ct : L2.St → Hp → Prop} {rt : VK}
theorem s_retP (h : Ew c ρ te f P ρ1) (hr : ∀ x, P x → Rt c (f x) [] D.rt) : Ss c T ρ (tRet te) D := fun σ H W => h T σ H W _ fun x v H1 px W1 => hr x px v H1 W1.keep (fun _ hp => by cases hp) (dpm hide_S0 W1.dp)
/-- the first state of a law -/
theorem s_state {i : Nat} {l : List Int} {s : Nat} (h : EdL c ρ te [.list (l.map .int), .int 0, .int 0, .int (s : Int)] ρ1) (k : ∀ p, Sk c T (ρ1.set i (.mu true p (.any StOk))) nx) : Ss c T ρ (tAsg te (gName i)) ⟨nx, rt, bk, ct⟩ :=
  s_asgM (i := i) h fun p σ H W => k p σ H (W.le ⟨by simp, fun j s s' h1 h2 => by
    rcases get_set h2 with ⟨rfl, hi, e⟩ | ⟨q, e⟩
    · rw [List.getElem?_set_self hi] at h1
      cases h1; subst e
      exact ⟨rfl, rfl, .inr ⟨_, _, rfl, rfl, ⟨l, 0, 0, _, rfl⟩⟩⟩
    · rw [List.getElem?_set_ne q] at h1
      rw [h1] at e; cases e
      exact slLe_refl _⟩)
end
end Nz

/-! lists or tuples; pairs that are quotients -/
namespace Nz
open PySem PySem.Spec PyProof.Rows L2 RZ
def eS {α : Type} (f : α → PyData) : Bool × List α → PyData
  | (true, l) => eL f l
  | (false, l) => eT f l
abbrev qp (r : Rat) : Int × Int := (r.num, (r.den : Int))
def qv (p : Int × Int) : Rat := Rat.divInt p.1 p.2
theorem qv_qp (r : Rat) : qv (qp r) = r := Rat.num_divInt_den r
section
variable {X : Cx} {e : Expr} {te : TE}
def iSeq (K : PySem.W.Frag) (te : TE) : TI := fun σ H R => iList K te σ H R ∨ iTup K te σ H R
theorem pi_seq {tg : Expr} (h : PE X e te) : PI X tg e (iSeq X.K te) := ⟨fun pins s σ H R I q => by
  rcases q with q | q
  · exact (pi_list h).run pins s σ H R I q
  · exact (pi_tup h).run pins s σ H R I q⟩
end
section
variable {c : Cz} {ρ ρ1 ρ2 : List Sl} {ta tb te : TE} {d : PyData} {T : Tm} {D : Ends} {nx bk ct : L2.St → Hp → Prop} {rt : VK}
theorem ei_seqX {α : Type} {f : α → PyData} {p : Bool × List α} (h : Ed c ρ te (eS f p) ρ1) : Ei c ρ (iSeq c.K te) (p.2.map fun x => Itm.hard (f x)) ρ1 := by
  obtain ⟨b, l⟩ := p
  cases b with
  | true => exact fun T σ H W R q => .inl (ei_listX (l := l) (f := f) h T σ H W R q)
  | false => exact fun T σ H W R q => .inr (ei_tupX (l := l) (f := f) h T σ H W R q)
/-- a, b = new list that will change, data -/
theorem s_parM1 {i j : Nat} {ds : List PyData} {y : PyData} (h : EdL c ρ ta ds ρ1) (h2 : ∀ S B, Ed (c.at S B) ρ1 tb y ρ1) (hij : i ≠ j) (k : ∀ p, Sk c T ((ρ1.set i (.mu true p (.lst ds))).set j (.da y)) nx) : Ss c T ρ (tPar i j (tCons ta (tCons tb tNil))) ⟨nx, rt, bk, ct⟩ := fun σ H W =>
  h T σ H W _ fun p H1 hB hn mo W1 => by
    obtain ⟨xs, hx, dx⟩ := mo
    have hs := W.sub
    have nS : p ∉ c.S0 := fun m => hn (List.mem_append_left _ m)
    have W2 : Wd (c.at (p :: c.S0) (upd c.B p (.lst xs))) (xs.zip ds ++ T) H1 σ ρ1 := (W1.pin hx hB hs nS).pushAll dx
    refine h2 _ _ _ σ H1 W2 _ fun v H2 W3 => ?_
    have lx := dpa_length dx
    obtain ⟨hp2, W4⟩ := W3.unpin hB (fun m => nS (hs p m))
    have hn4 := W4.notin nS hs
    have dx2 := Wd.allOf (T := T) lx W4.pop
    have W5 := W4.setM hs i (l := true) (o := .lst ds) (by rw [if_pos rfl]; exact hB) hn4 ⟨xs, hp2, dx2⟩
    have dy : Dz c.K (hide (hid c (ρ1.set i (.mu true p (.lst ds)))) H2) v y := W5.tmp (v, y) (List.mem_cons_self ..)
    have W6 := W5.setD j dy
    refine ⟨.ref p, v, rfl, ?_⟩
    exact k p _ _ (W6.tmps fun q hq => List.mem_cons_of_mem _ (List.mem_append_right _ hq))
end
end Nz

/-! the mathematics of quotients, for the defs that all laws share -/
namespace Nz
open PySem PySem.Spec PyProof.Rows L2 RZ

abbrev eN (n : Nat) : PyData := .int (n : Int)
def isIntD (d : PyData) : Bool := isi_int d && !isi_bool d
theorem gcd_turn (a b : Nat) : Nat.gcd b (a % b) = Nat.gcd a b := by rw [Nat.gcd_comm b, ← Nat.gcd_rec, Nat.gcd_comm]
theorem gcd_end {a b : Nat} {n : Nat} (h : Nat.gcd a b = n) (hb : decide ((0 : Int) < (b : Int)) = false) : PyData.int (a : Int) = eN n := by
  have : b = 0 := by have := of_decide_eq_false hb; omega
  subst this
  rw [Nat.gcd_zero_right] at h
  rw [h]
/-- both parts below 2 ^ 4400 -/
def Qb (r : Rat) : Prop := r.num.natAbs < 2 ^ 4400 ∧ r.den < 2 ^ 4400
theorem quo_gcd {a b : Int} (h : b ≠ 0) : 0 < (Nat.gcd a.natAbs b.natAbs : Int) := by
  have := Nat.gcd_pos_of_pos_right a.natAbs (show 0 < b.natAbs by omega)
  omega
theorem quo_le {a b : Int} (h : b ≠ 0) : Nat.gcd a.natAbs b.natAbs ≤ b.natAbs := Nat.le_of_dvd (by omega) (Nat.gcd_dvd_right _ _)
theorem eN_abs {i : Int} (h : 0 ≤ i) : PyData.int i = eN i.natAbs := by
  show PyData.int i = PyData.int (i.natAbs : Int)
  rw [show (i.natAbs : Int) = i by omega]
theorem quo_div {a b : Int} (h : b ≠ 0) (h2 : b.natAbs < 2 ^ 8999) {i : Int} : CDivG i (Nat.gcd a.natAbs b.natAbs : Int) := by
  have h3 := quo_le (a := a) h
  exact div_b (quo_gcd h) (Nat.lt_of_le_of_lt (by omega) h2)
theorem quo_num (a b : Int) (h : 0 < b) : (Rat.divInt a b).num = a / (Nat.gcd a.natAbs b.natAbs : Int) := by
  rw [Rat.num_divInt, Int.sign_eq_one_of_pos h, Int.one_mul, Int.gcd_comm]; rfl
theorem quo_den (a b : Int) (h : 0 < b) : ((Rat.divInt a b).den : Int) = b / (Nat.gcd a.natAbs b.natAbs : Int) := by
  rw [Rat.den_divInt, if_neg (by omega), Int.gcd_comm]
  show ((b.natAbs / Nat.gcd a.natAbs b.natAbs : Nat) : Int) = _
  rw [Int.natCast_ediv, show (b.natAbs : Int) = b by omega]
theorem quo_pos {a b : Int} (h0 : b ≠ 0) (h : decide (b < 0) = false) : PyData.tuple [.int (a / (Nat.gcd a.natAbs b.natAbs : Int)), .int (b / (Nat.gcd a.natAbs b.natAbs : Int))] = eQ (Rat.divInt a b) := by
  have hb : 0 < b := by have := of_decide_eq_false h; omega
  show _ = PyData.tuple [.int _, .int _]
  rw [quo_num a b hb, quo_den a b hb]
theorem quo_neg {a b : Int} (h : decide (b < 0) = true) : PyData.tuple [.int ((-a) / (Nat.gcd (-a).natAbs (-b).natAbs : Int)), .int ((-b) / (Nat.gcd (-a).natAbs (-b).natAbs : Int))] = eQ (Rat.divInt a b) := by
  have hb : 0 < -b := by have := of_decide_eq_true h; omega
  rw [← Rat.neg_divInt_neg]
  show _ = PyData.tuple [.int _, .int _]
  rw [quo_num (-a) (-b) hb, quo_den (-a) (-b) hb]
theorem den_ne (a : Rat) : (a.den : Int) ≠ 0 := by have := a.den_nz; omega
theorem q_add (a b : Rat) : Rat.divInt (a.num * b.den + b.num * a.den) (a.den * b.den) = a + b := by
  rw [Rat.add_def', ← Rat.divInt_ofNat]; push_cast; rfl
theorem q_sub (a b : Rat) : Rat.divInt (a.num * b.den - b.num * a.den) (a.den * b.den) = a - b := by
  rw [Rat.sub_def', ← Rat.divInt_ofNat]; push_cast; rfl
theorem q_mul (a b : Rat) : Rat.divInt (a.num * b.num) (a.den * b.den) = a * b := by
  rw [Rat.mul_def', ← Rat.divInt_ofNat]; push_cast; rfl
theorem q_div (a b : Rat) : Rat.divInt (a.num * b.den) (a.den * b.num) = a / b := by
  rw [Rat.div_def, Rat.inv_def]
  conv => rhs; rw [← Rat.num_divInt_den a, Rat.divInt_mul_divInt]
theorem den_nz2 (a b : Rat) : (a.den : Int) * (b.den : Int) ≠ 0 := Int.mul_ne_zero (den_ne a) (den_ne b)
theorem num_ne {b : Rat} (h : b ≠ 0) : b.num ≠ 0 := fun e => h (Rat.num_eq_zero.mp e)
theorem den_nz3 (a : Rat) {b : Rat} (h : b ≠ 0) : (a.den : Int) * b.num ≠ 0 := Int.mul_ne_zero (den_ne a) (num_ne h)
theorem lt_pow {a b : Nat} (ha : a < 2 ^ 4400) (hb : b < 2 ^ 4400) : a * b < 2 ^ 8999 :=
  Nat.lt_of_lt_of_le (Nat.mul_lt_mul'' ha hb) (by rw [← Nat.pow_add]; exact Nat.pow_le_pow_right (by decide) (by decide))
theorem den_lt2 {a b : Rat} (ha : Qb a) (hb : Qb b) : ((a.den : Int) * (b.den : Int)).natAbs < 2 ^ 8999 := by
  rw [Int.natAbs_mul]; exact lt_pow ha.2 hb.2
theorem den_lt3 {a b : Rat} (ha : Qb a) (hb : Qb b) : ((a.den : Int) * b.num).natAbs < 2 ^ 8999 := by
  rw [Int.natAbs_mul]; exact lt_pow ha.2 hb.1
theorem mul_nd {a b : Rat} (ha : Qb a) (hb : Qb b) : IntMulOk a.num (b.den : Int) := mul_b ha.1 (show ((b.den : Int)).natAbs < 2 ^ 4400 from hb.2)
theorem mul_dn {a b : Rat} (ha : Qb a) (hb : Qb b) : IntMulOk (a.den : Int) b.num := mul_b (show ((a.den : Int)).natAbs < 2 ^ 4400 from ha.2) hb.1
theorem mul_dd {a b : Rat} (ha : Qb a) (hb : Qb b) : IntMulOk (a.den : Int) (b.den : Int) := mul_b (show ((a.den : Int)).natAbs < 2 ^ 4400 from ha.2) (show ((b.den : Int)).natAbs < 2 ^ 4400 from hb.2)
theorem mul_nn {a b : Rat} (ha : Qb a) (hb : Qb b) : IntMulOk a.num b.num := mul_b ha.1 hb.1
end Nz

set_option exponentiation.threshold 10000
/-! quotients: sizes -/
namespace Nz
open PySem PySem.Spec PyProof.Rows L2 RZ
/-- both parts at most 2 ^ k -/
def Qk (k : Nat) (r : Rat) : Prop := r.num.natAbs ≤ 2 ^ k ∧ r.den ≤ 2 ^ k
theorem Qk.mono {j k : Nat} {r : Rat} (h : Qk j r) (hk : j ≤ k) : Qk k r := ⟨Nat.le_trans h.1 (Nat.pow_le_pow_right (by decide) hk), Nat.le_trans h.2 (Nat.pow_le_pow_right (by decide) hk)⟩
theorem Qk.qb {k : Nat} {r : Rat} (h : Qk k r) (hk : k < 4400) : Qb r := ⟨Nat.lt_of_le_of_lt h.1 (Nat.pow_lt_pow_right (by decide) hk), Nat.lt_of_le_of_lt h.2 (Nat.pow_lt_pow_right (by decide) hk)⟩
theorem Qk.gd {k : Nat} {r : Rat} (h : Qk k r) (hk : k < 1900) : Gd 1 1209 (eQ r) := gd_Q (Nat.lt_of_le_of_lt h.1 (Nat.pow_lt_pow_right (by decide) hk)) (Nat.lt_of_le_of_lt h.2 (Nat.pow_lt_pow_right (by decide) hk))
theorem div_natAbs_le {a : Int} {g : Nat} : (a / (g : Int)).natAbs ≤ a.natAbs := Int.natAbs_ediv_le_natAbs _ _
theorem divInt_le (a b : Int) (h : 0 < b) : (Rat.divInt a b).num.natAbs ≤ a.natAbs ∧ (Rat.divInt a b).den ≤ b.natAbs := by
  rw [quo_num a b h]
  refine ⟨div_natAbs_le, ?_⟩
  have := quo_den a b h
  have h2 := div_natAbs_le (a := b) (g := Nat.gcd a.natAbs b.natAbs)
  rw [← this] at h2
  exact h2
theorem Qk_divInt {k : Nat} {a b : Int} (h : 0 < b) (ha : a.natAbs ≤ 2 ^ k) (hb : b.natAbs ≤ 2 ^ k) : Qk k (Rat.divInt a b) := by
  obtain ⟨h1, h2⟩ := divInt_le a b h
  exact ⟨Nat.le_trans h1 ha, Nat.le_trans h2 hb⟩
theorem Qk_mul {j k : Nat} {r q : Rat} (h1 : Qk j r) (h2 : Qk k q) : Qk (j + k) (r * q) := by
  rw [← q_mul]
  have := r.den_nz
  have := q.den_nz
  refine Qk_divInt (Int.mul_pos (by omega) (by omega)) ?_ ?_
  · rw [Int.natAbs_mul, Nat.pow_add]; exact Nat.mul_le_mul h1.1 h2.1
  · rw [Int.natAbs_mul, Nat.pow_add]; exact Nat.mul_le_mul h1.2 h2.2
theorem Qk_zero (k : Nat) : Qk k 0 := ⟨Nat.zero_le _, Nat.one_le_two_pow⟩
theorem Qk_one (k : Nat) : Qk k 1 := ⟨Nat.one_le_two_pow, Nat.one_le_two_pow⟩
/-- a part of D, of at most M -/
def Bd (M D : Nat) (r : Rat) : Prop := 0 < D ∧ ∃ n : Int, n.natAbs ≤ M ∧ r = Rat.divInt n D
theorem Bd.qk {M D k : Nat} {r : Rat} (h : Bd M D r) (hM : M ≤ 2 ^ k) (hD : D ≤ 2 ^ k) : Qk k r := by
  obtain ⟨h0, n, hn, rfl⟩ := h
  exact Qk_divInt (by omega) (Nat.le_trans hn hM) (by simpa using hD)
theorem Bd.mono {M M' D : Nat} {r : Rat} (h : Bd M D r) (hM : M ≤ M') : Bd M' D r := by
  obtain ⟨h0, n, hn, e⟩ := h
  exact ⟨h0, n, Nat.le_trans hn hM, e⟩
theorem Bd_zero {M D : Nat} (h : 0 < D) : Bd M D 0 := ⟨h, 0, Nat.zero_le _, by rw [Rat.zero_divInt]⟩
theorem Bd_add {M M' D : Nat} {r q : Rat} (h1 : Bd M D r) (h2 : Bd M' D q) : Bd (M + M') D (r + q) := by
  obtain ⟨h0, n, hn, rfl⟩ := h1
  obtain ⟨_, m, hm, rfl⟩ := h2
  exact ⟨h0, n + m, Nat.le_trans (Int.natAbs_add_le _ _) (Nat.add_le_add hn hm), by rw [Rat.divInt_add_divInt _ _ (by omega) (by omega), ← Int.add_mul, Rat.divInt_mul_right (by omega)]⟩
theorem Bd_mul {M M' D D' : Nat} {r q : Rat} (h1 : Bd M D r) (h2 : Bd M' D' q) : Bd (M * M') (D * D') (r * q) := by
  obtain ⟨h0, n, hn, rfl⟩ := h1
  obtain ⟨h0', m, hm, rfl⟩ := h2
  exact ⟨Nat.mul_pos h0 h0', n * m, by rw [Int.natAbs_mul]; exact Nat.mul_le_mul hn hm, by rw [Rat.divInt_mul_divInt]; push_cast; rfl⟩
theorem Bd_div {a b : Int} {M : Nat} (h : 0 < b) (ha : a.natAbs ≤ M) : Bd M b.toNat (Rat.divInt a b) := ⟨by omega, a, ha, by rw [Int.toNat_of_nonneg (by omega)]⟩
/-! ### the law's own quotients -/
def Pb (p : Int × Int) : Prop := p.1.natAbs < 2 ^ 4400 ∧ p.2 ≠ 0 ∧ p.2.natAbs < 2 ^ 4400
theorem Qb.pb {r : Rat} (h : Qb r) : Pb (qp r) := ⟨h.1, den_ne r, h.2⟩
theorem pb_small {a b : Int} (ha : -(2 ^ 64) < a ∧ a < 2 ^ 64) (h0 : b ≠ 0) (hb : -(2 ^ 64) < b ∧ b < 2 ^ 64) : Pb (a, b) :=
  ⟨Nat.lt_of_lt_of_le (show a.natAbs < 2 ^ 64 by omega) (Nat.pow_le_pow_right (by decide) (by decide)), h0, Nat.lt_of_lt_of_le (show b.natAbs < 2 ^ 64 by omega) (Nat.pow_le_pow_right (by decide) (by decide))⟩
theorem pb_den {a b : Int × Int} (h0 : Pb a) (h1 : Pb b) : (a.2 * b.2).natAbs < 2 ^ 8999 := by rw [Int.natAbs_mul]; exact lt_pow h0.2.2 h1.2.2
theorem pb_add {a b : Int × Int} (h0 : Pb a) (h1 : Pb b) : qv a + qv b = Rat.divInt (a.1 * b.2 + b.1 * a.2) (a.2 * b.2) := Rat.divInt_add_divInt _ _ h0.2.1 h1.2.1
theorem pb_mul (a b : Int × Int) : qv a * qv b = Rat.divInt (a.1 * b.1) (a.2 * b.2) := Rat.divInt_mul_divInt _ _
theorem lawq_gcd {a : Nat × Nat} {n : Nat} (hP : Nat.gcd a.1 a.2 = n) (hb : decide ((0 : Int) < (a.2 : Int)) = false) : a.1 = n := by
  have : a.2 = 0 := by have := of_decide_eq_false hb; omega
  rw [this, Nat.gcd_zero_right] at hP
  exact hP
theorem lawq_pos {a : Nat × Nat} {up down : Int} (hP : Nat.gcd a.1 a.2 = Nat.gcd up.natAbs down.natAbs) (hb : decide ((0 : Int) < (a.2 : Int)) = false) (h : decide ((0 : Int) < down) = true) :
    PyData.tuple [.int (up / (a.1 : Int)), .int (down / (a.1 : Int))] = eQ (Rat.divInt up down) := by
  have hd := of_decide_eq_true h
  rw [lawq_gcd hP hb]
  exact quo_pos (by omega) (decide_eq_false (by omega))
theorem lawq_neg {a : Nat × Nat} {up down : Int} (hP : Nat.gcd a.1 a.2 = Nat.gcd up.natAbs down.natAbs) (hb : decide ((0 : Int) < (a.2 : Int)) = false) (h0 : down ≠ 0) (h : decide ((0 : Int) < down) = false) :
    PyData.tuple [.int ((0 - up) / (a.1 : Int)), .int ((0 - down) / (a.1 : Int))] = eQ (Rat.divInt up down) := by
  have hd := of_decide_eq_false h
  rw [lawq_gcd hP hb, Int.zero_sub, Int.zero_sub]
  have := quo_neg (a := up) (b := down) (decide_eq_true (by omega))
  rw [Int.natAbs_neg, Int.natAbs_neg] at this
  exact this
theorem lawq_div {a : Nat × Nat} {up down i : Int} (h0 : down ≠ 0) (h1 : down.natAbs < 2 ^ 8999) (hP : Nat.gcd a.1 a.2 = Nat.gcd up.natAbs down.natAbs) (hb : decide ((0 : Int) < (a.2 : Int)) = false) : CDivG i (a.1 : Int) := by
  rw [lawq_gcd hP hb]; exact quo_div h0 h1
theorem sumQ_step {l : List Rat} {i : Nat} {x : Rat} (h : l[i]? = some x) : (l.take i).sum + x = (l.take (i + 1)).sum := by
  rw [List.take_add_one, h]
  simp [Rat.add_zero]
theorem Bd_sum {M D : Nat} {l : List Rat} (hD : 0 < D) (h : ∀ r ∈ l, Bd M D r) : Bd (l.length * M) D l.sum := by
  induction l with
  | nil => exact Bd_zero hD
  | cons a l ih =>
    rw [List.sum_cons, List.length_cons, Nat.add_mul, Nat.one_mul, Nat.add_comm]
    exact Bd_add (h a (List.mem_cons_self ..)) (ih fun r hr => h r (List.mem_cons_of_mem _ hr))
theorem Bd.qb {M D : Nat} {r : Rat} (h : Bd M D r) (hM : M < 2 ^ 4400) (hD : D < 2 ^ 4400) : Qb r := by
  obtain ⟨h0, n, hn, rfl⟩ := h
  obtain ⟨h1, h2⟩ := divInt_le n D (by omega)
  exact ⟨Nat.lt_of_le_of_lt (Nat.le_trans h1 hn) hM, Nat.lt_of_le_of_lt (by simpa using h2) hD⟩
theorem sum_qb {l : List Rat} (h : ∃ M D, (∀ r ∈ l, Bd M D r) ∧ (l.length + 1) * M < 2 ^ 4400 ∧ 0 < D ∧ D < 2 ^ 4400) (i : Nat) {x : Rat} (hx : l[i]? = some x) : Qb (l.take i).sum ∧ Qb x := by
  obtain ⟨M, D, h1, h2, h3, h4⟩ := h
  have hM : ∀ k, k ≤ l.length + 1 → k * M < 2 ^ 4400 := fun k hk => Nat.lt_of_le_of_lt (Nat.mul_le_mul_right _ hk) h2
  refine ⟨(Bd_sum h3 fun r hr => h1 r (List.mem_of_mem_take hr)).qb (hM _ (by rw [List.length_take]; omega)) h4, (h1 x (List.mem_of_getElem? hx)).qb ?_ h4⟩
  have := hM 1 (by omega)
  omega
end Nz

/-! enumerate(tuple) -/
namespace Nz
open PySem PySem.Spec PyProof.Rows L2 RZ
/-- what comes of a tuple, one by one -/
theorem drawsTup {prog : Program} {w : World} {A : Around} {it t : Addr} {items : Array Value} (free : A.handled = none) (apart : t ≠ it) :
    Draws prog w A it [it, t] items.size (fun i x => items[i]? = some x) (fun i h => h.IsTupleIter it t i ∧ h.IsTuple t items) where
  live := fun i h st => ⟨st.1.choose, st.1.choose_spec.1⟩
  frame := fun i h h' st k => ⟨⟨st.1.choose, k it (by simp) _ st.1.choose_spec.1, st.1.choose_spec.2⟩, ⟨st.2.choose, k t (by simp) _ st.2.choose_spec.1, st.2.choose_spec.2⟩⟩
  item := fun i s Q E lt st q => RZ.nextOf_tuple_item st.1 st.2 (x := items[i]) (Array.getElem?_eq_getElem lt) fun h' a sb => q _ h' s.toks (Array.getElem?_eq_getElem lt) ⟨a, st.2.extBut sb.extBut apart⟩ sb
  done := fun s Q E st q => RZ.nextOf_tuple_end free st.1 st.2 (by rw [Array.getElem?_eq_none_iff]; exact Nat.le_refl _) q
set_option maxHeartbeats 4000000 in
theorem newEnumT (l : Addr) (items : Array Value) : Meets (Builtin.«enumerate.__new__» ⟨[.type "enumerate", .ref l], []⟩) (fun _ R s => s.heap.IsTuple l items ∧
    (let mid := s.heap.push { cls := .type "tuple_iterator", data := .fields #[.ref l, .int 0 0] }
     R (.ok (.ret (.ref mid.objs.size))) { s with heap := mid.push { cls := .type "enumerate", data := .fields #[.none, .bool false, .ref s.heap.objs.size, rawInt 0, .none, .none] } })) :=
  .of_wp fun prog w A R s h => by
    obtain ⟨hp, gs, dr, tk, os⟩ := s
    obtain ⟨isT, h⟩ := h
    have isT : Heap.IsTuple (Shared.heap ⟨hp, gs, dr, tk, os⟩) l items := isT
    have sub := sub_enumerate
    have big := isT
    obtain ⟨ob, hob, hcls, n, hdat⟩ := big
    wp_walk using wpAny_loadPart' hob
    refine wpAny_stack_any fun _ => wpAny_pure ?_
    split
    · rename_i c _ _ _ _ _
      cases (c == Value.type "enumerate") <;>
      · wp_walk using wpAny_pyIter_tuple isT
        exact ⟨_, rfl, h⟩
    · wp_walk using wpAny_pyIter_tuple isT
      exact ⟨_, rfl, h⟩
section
variable {prog : Program} {w : World} {A : Around} {E : Value → Shared → Prop} {s : Shared}
theorem callEnumT {l : Addr} {items : Array Value} {Q : Value → Shared → Prop} (isT : s.heap.IsTuple l items)
    (q : ∀ h', IsEnum h' (s.heap.objs.size + 1) s.heap.objs.size 0 .none → h'.IsTupleIter s.heap.objs.size l 0 → (∀ b o, s.heap.get? b = some o → h'.get? b = some o) → Q (.ref (s.heap.objs.size + 1)) { s with heap := h' }) :
    wpAny (model prog w) A (call (.type "enumerate") [.ref l]) Q E s := by
  refine callType_new F.called_enumerate (by decide) (F.typeCall_enumerate_1 _) (F.newCall_enumerate_1 _) (fun ob => F.args_object_init_2 ob _) F.entry_enumerate_new (newEnumT l items) ⟨isT, ?_⟩
  have size1 : (s.heap.push { cls := .type "tuple_iterator", data := .fields #[.ref l, .int 0 0] }).objs.size = s.heap.objs.size + 1 := Heap.size_push ..
  dsimp only
  rw [size1]
  have isE : IsEnum ((s.heap.push { cls := .type "tuple_iterator", data := .fields #[.ref l, .int 0 0] }).push { cls := .type "enumerate", data := .fields #[.none, .bool false, .ref s.heap.objs.size, rawInt 0, .none, .none] }) (s.heap.objs.size + 1) s.heap.objs.size 0 .none := by
    have z := Heap.get?_push_size (s.heap.push { cls := .type "tuple_iterator", data := .fields #[.ref l, .int 0 0] }) (o := { cls := .type "enumerate", data := .fields #[.none, .bool false, .ref s.heap.objs.size, rawInt 0, .none, .none] }) rfl
    rwa [size1] at z
  exact ⟨⟨_, isE, rfl⟩, q _ isE ⟨_, Heap.get?_push_of_some _ (Heap.get?_push_size _ rfl), rfl, rfl⟩ fun b o x => Heap.get?_push_of_some _ (Heap.get?_push_of_some _ x)⟩
end
section
variable {prog : Program} {w : World} {A : Around} {E : Value → Shared → Prop} {s : Shared}
/-- at the end, however far behind it -/
theorem enumEndT {e it t : Addr} {i : Nat} {items : Array Value} {old : Value} {Q : Option Value → Shared → Prop} (free : A.handled = none) (isE : IsEnum s.heap e it i old) (isI : s.heap.IsTupleIter it t i) (isT : s.heap.IsTuple t items) (out : items.size ≤ i)
    (q : ∀ h', Heap.ExtBut it s.heap h' → Q none { s with heap := h' }) : wpAny (model prog w) A (pyNext (.ref e)) Q E s := by
  have D : Draws prog w A.in1 it [it, t] i (fun i x => items[i]? = some x) (fun j h => j = i ∧ h.IsTupleIter it t i ∧ h.IsTuple t items) :=
    { live := fun j h st => ⟨st.2.1.choose, st.2.1.choose_spec.1⟩
      frame := fun j h h' st k => ⟨st.1, ⟨st.2.1.choose, k it (by simp) _ st.2.1.choose_spec.1, st.2.1.choose_spec.2⟩, ⟨st.2.2.choose, k t (by simp) _ st.2.2.choose_spec.1, st.2.2.choose_spec.2⟩⟩
      item := fun j s Q E lt st q => absurd st.1 (Nat.ne_of_lt lt)
      done := fun s Q E st q => RZ.nextOf_tuple_end free st.2.1 st.2.2 (by rw [Array.getElem?_eq_none_iff]; exact out) q }
  exact wpAny_pyNext_enum_endD D isE ⟨rfl, isI, isT⟩ q
end
/-! the walk -/
def IteT (K : PySem.W.Frag) (a : Addr) : It :=
  ⟨fun i H => ∃ (xs : List V) (x : V), SqT K H a xs ∧ xs[i]? = some x,
   fun i H v H' => ∃ p x, v = .ref p ∧ H p = none ∧ H' = upd H p (.tup [.int (i : Nat), x]) ∧ ∀ xs, SqT K H a xs → xs[i]? = some x,
   fun i H => ∃ xs : List V, SqT K H a xs ∧ xs.length ≤ i⟩
theorem tup_ne_it {h : Heap} {a it : Addr} {i : Nat} {us : Array Value} (p : IsTup h a us) (q : h.IsTupleIter it a i) : a ≠ it := fun e => by
  subst e
  obtain ⟨o, ho, hc, _⟩ := p
  obtain ⟨o', ho', hc', _⟩ := q
  rw [ho] at ho'
  cases ho'
  rw [hc] at hc'
  exact absurd hc' (by decide)
theorem tup_ne_en {h : Heap} {a e it : Addr} {i : Int} {old : Value} {us : Array Value} (p : IsTup h a us) (q : IsEnum h e it i old) : a ≠ e := fun z => by
  subst z
  obtain ⟨o, ho, hc, _⟩ := p
  have q : h.get? a = some _ := q
  rw [ho] at q
  cases q
  have hc : (Value.type "enumerate") = .type "tuple" := hc
  exact absurd hc (by decide)
theorem turnEnumT {P : Program} {w : World} {K : PySem.W.Frag} {els : List Expr} {n0 : Nat} {ps : Pos} (a e it : Addr) :
    Turn P w K (.Tuple els n0 ps) (IteT K a) [e, it] e (fun i h => (∃ old, IsEnum h e it ((i : Nat) : Int) old) ∧ h.IsTupleIter it a i ∧ e ≠ it) where
  mem := List.mem_cons_self ..
  obj := fun i h st b hb => by
    obtain ⟨⟨old, isE⟩, ⟨o, ho, _, hd⟩, _⟩ := st
    rcases List.mem_cons.mp hb with rfl | hb
    · exact ⟨_, isE, fun v q => nomatch q⟩
    · have := List.mem_singleton.mp hb
      subst this
      exact ⟨o, ho, fun v q => by rw [hd] at q; cases q⟩
  keep := fun i h h' ⟨⟨old, isE⟩, ⟨o, ho, r⟩, ne⟩ k => ⟨⟨old, k e (by simp) _ isE⟩, ⟨o, k it (by simp) o ho, r⟩, ne⟩
  item := by
    intro X eP eW eK calm i pins s σ H E I fp st go
    subst eP; subst eW; subst eK
    obtain ⟨⟨old, isE⟩, isI, ne⟩ := st
    obtain ⟨xs, x, sq, hx⟩ := go
    obtain ⟨us, rel, isT, size⟩ := I.tuple sq
    obtain ⟨u, hu, ru⟩ := rel.get hx
    have eLt : e < s.heap.objs.size := Heap.lt_size isE
    have iLt : it < s.heap.objs.size := Heap.lt_size isI.choose_spec.1
    have inUs : i < us.toArray.size := by rw [List.size_toArray]; exact (List.getElem?_eq_some_iff.mp hu).1
    refine wpAny_pyNext_enum_itemD (drawsTup (I.ok.hd calm) (tup_ne_it isT isI)) isE ⟨isI, isT⟩ inUs ne (by simp [ne, (tup_ne_en isT isE).symm]) fun y h' tk hy out st' isNew size' kept => ?_
    have hy : y = u := by
      have : us.toArray[i]? = some u := by simpa using hu
      rw [this] at hy; cases hy; rfl
    subst hy
    refine ⟨_, rfl, wpAny_letOwnedTupleGo_enum (s := { s with heap := h', toks := tk + 1 }) out fun h'' isE' sb => ?_⟩
    have new2 : h''.get? s.heap.objs.size = some { cls := .type "tuple", data := .seq #[.int i tk, y] } := (sb.2 _ (Nat.ne_of_gt eLt)).trans isNew
    have I2 : Inv X pins σ (upd H s.heap.objs.size (.tup [.int (i : Nat), x])) { s with heap := h'', toks := tk + 1 } :=
      I.turnedNew (ch := [e, it]) (fun b ob nb q => by
        have nb1 : b ≠ e := fun z => nb (by simp [z])
        have nb2 : b ≠ it := fun z => nb (by simp [z])
        exact (sb.2 b nb1).trans (kept b ob nb1 nb2 q)) fp (Nat.le_refl _) ⟨show 2 ≤ sizeLine by decide, [.int i tk, y], .cons ⟨_, rfl⟩ (.cons ru .nil), ⟨_, new2, rfl, _, rfl⟩⟩
    refine ⟨.ref s.heap.objs.size, _, I2, rfl, ⟨_, x, rfl, I.hok.fresh (Nat.le_refl _), rfl, fun ys hy => by rw [I.tuple_inj hy sq]; exact hx⟩, ⟨⟨y, ?_⟩, ?_, ne⟩, fun b hb => ?_⟩
    · rw [show ((i + 1 : Nat) : Int) = (i : Int) + 1 by omega]; exact isE'
    · obtain ⟨o, ho, r⟩ := st'.1
      exact ⟨o, (sb.2 it (Ne.symm ne)).trans ho, r⟩
    · have lt : b < s.heap.objs.size := by
        rcases List.mem_cons.mp hb with rfl | hb
        · exact eLt
        · rw [List.mem_singleton.mp hb]; exact iLt
      rw [upd_ne (Nat.ne_of_lt lt)]
      exact (fp b hb).1
  done := by
    intro X eP eW eK calm i pins s σ H E I fp st stop
    subst eP; subst eW; subst eK
    obtain ⟨⟨old, isE⟩, isI, ne⟩ := st
    obtain ⟨xs, sq, le⟩ := stop
    obtain ⟨us, rel, isT, size⟩ := I.tuple sq
    obtain ⟨g0, g1, g2, g3, g4, g5⟩ := fp it (by simp)
    have len := rel.length
    exact Nz.enumEndT (I.ok.hd calm) isE isI isT (by simp; omega) fun h' eb => ⟨rfl, I.turned (t' := s.toks) (fun b o hb q => eb b o hb q) g0 g1 g3 g4 g5⟩
  self := fun A i s Q E st h => wpAny_pyIter_enum st.1.choose_spec h
def iEnumT (K : PySem.W.Frag) (ta : TA) : TI := fun σ H R => ta σ H fun vs H1 => ∃ a xs, vs = [.ref a] ∧ SqT K H1 a xs ∧ R (IteT K a) H1
theorem pi_enumT {X : Cx} {e : Expr} {ta : TA} {p pos tpos : Pos} {els : List Expr} {n0 : Nat} (hg : Gl X "enumerate") (hm : X.mg "enumerate" = none) (ha : PA X [e] ta) (hs : starEach [e] X.env = [(false, eval e X.env)] := by rfl) :
    PI X (.Tuple els n0 tpos) (.Call (.Name "enumerate" p) [e] [] pos) (iEnumT X.K ta) := ⟨fun pins s σ H R I h => Call_ (ld_blt I hg hm boot_enumerate (PyProof.Rows.callWith_type1 (thn (ha.run pos pins s σ H _ I h) fun us s1 ⟨vs, H1, I1, rel, q⟩ => by
  obtain ⟨a, xs, e1, sq, q⟩ := q
  subst e1
  obtain ⟨u, rfl, ru⟩ := rel.one
  cases ru
  obtain ⟨its, rv, isT, size⟩ := I1.tuple sq
  refine callEnumT isT fun h' isE isI kept => wpAny_pyIter_enum isE ?_
  refine ⟨s1.heap.objs.size + 1, [s1.heap.objs.size + 1, s1.heap.objs.size], _, _, H1, rfl, I1.kept (t' := s1.toks) kept, turnEnumT a (s1.heap.objs.size + 1) s1.heap.objs.size, ⟨⟨.none, isE⟩, isI, Nat.succ_ne_self _⟩, fun b hb => ?_, q⟩
  have le : s1.heap.objs.size ≤ b := by
    rcases List.mem_cons.mp hb with rfl | hb
    · exact Nat.le_succ _
    · rw [List.mem_singleton.mp hb]; exact Nat.le_refl _
  exact I1.fpOk le (I1.hok.fresh le)) hs rfl))⟩
section
variable {c : Cz} {ρ ρ1 : List Sl} {te : TE}
theorem ei_enumT {ds : List PyData} (h : Ed c ρ te (.tuple ds) ρ1) : Ei c ρ (iEnumT c.K (tCons te tNil)) (enumD ds) ρ1 := fun T σ H W R q => h T σ H W _ fun v H1 W1 => by
  obtain ⟨a, xs, rfl, hs, h2⟩ := dp_tup W1.dp
  refine ⟨a, xs, rfl, (ex_p (hide_ex _ _) hs).sq, q _ H1 [(.ref a, .tuple ds)] W1 ?_⟩
  rintro c' T' σ' H' ρ' hK W'
  obtain ⟨b, ys, e, hs', h2'⟩ := dp_tup W'.dp
  cases e
  have hs2 : SqT c.K H' a ys := hK ▸ (ex_p (hide_ex _ _) hs').sq
  have hl := dpa_length h2'
  rw [enumD_len]
  refine ⟨fun i hi => ?_, fun i hi => ⟨ys, hs2, by omega⟩⟩
  obtain ⟨x, hx, dx⟩ := dpa_get h2' (List.getElem?_eq_getElem hi)
  refine ⟨⟨ys, x, hs2, hx⟩, fun y H2 hy => ?_⟩
  obtain ⟨p, z, rfl, hp, rfl, hy⟩ := hy
  have ez := (hy ys hs2).symm.trans hx
  rw [Option.some.inj ez]
  have W2 := W'.grow (Ex.new (o := .tup [.int (i : Nat), x]) hp)
  have e2 : Ex (hide (hid c' ρ') H') (hide (hid c' ρ') (upd H' p (.tup [.int (i : Nat), x]))) := hide_mono fun a o n h => ⟨n, Ex.new hp a o h⟩
  exact ⟨_, enumD_get (List.getElem?_eq_getElem hi), p, [.int (i : Nat), x], rfl, .inl (.inl upd_same), rfl, (W2.push (dpm e2 dx)).push (.int _)⟩
theorem ei_enumTX {α : Type} {f : α → PyData} {l : List α} (h : Ed c ρ te (.tuple (l.map f)) ρ1) : Ei c ρ (iEnumT c.K (tCons te tNil)) (l.zipIdx.map fun p => Itm.soft [PyData.int (p.2 : Int), f p.1]) ρ1 := by
  have := ei_enumT h
  unfold enumD at this
  rw [List.zipIdx_map, List.map_map] at this
  exact this
end
end Nz

/-! more rules: in, range downward, the last place of a list -/
namespace Nz
open PySem PySem.Spec PyProof.Rows L2 RZ
section
variable {c : Cz} {ρ ρ1 ρ2 ρ3 : List Sl} {ta tb te tc : TE} {d : PyData} {T : Tm}
theorem flat_ints (l : List Int) : (l.map V.int).all flatV = true := by rw [List.all_map, List.all_eq_true]; exact fun _ _ => rfl
theorem flat_strs (l : List Str) : (l.map V.str).all flatV = true := by rw [List.all_map, List.all_eq_true]; exact fun _ _ => rfl
theorem inV_int (i : Int) (l : List Int) : inV (.int i) (l.map V.int) = decide (i ∈ l) := by
  unfold inV
  rw [List.any_map]
  induction l with
  | nil => rfl
  | cons a l ih =>
    rw [List.any_cons, ih]
    by_cases e : a = i
    · subst e; simp [eqV]
    · have e' : ¬ i = a := fun z => e z.symm
      simp [eqV, e, e']
theorem inV_str (i : Str) (l : List Str) : inV (.str i) (l.map V.str) = decide (i ∈ l) := by
  unfold inV
  rw [List.any_map]
  induction l with
  | nil => rfl
  | cons a l ih =>
    rw [List.any_cons, ih]
    by_cases e : a = i
    · subst e; simp [eqV]
    · have e' : ¬ i = a := fun z => e z.symm
      simp [eqV, e, e']
theorem dpaStrs {K : PySem.W.Frag} {H : Hp} : ∀ {ns : List Str} {xs : List V}, DzAll K H xs (ns.map .str) → xs = ns.map V.str
  | [], _, h => by cases h; rfl
  | n :: ns, _, h => by
    cases h with
    | cons a b => rw [dp_str a, dpaStrs b]; rfl
theorem ed_inSq {neg : Bool} {v : PyData} {ds : List PyData} {s : PyData} {b : Bool} (hs : s = .list ds ∨ s = .tuple ds) (ha : Ed c ρ ta v ρ1) (hb : Ed c ρ1 tb s ρ2)
    (hi : ∀ (H : Hp) (x : V) (xs : List V), Dz c.K H x v → DzAll c.K H xs ds → flatV x = true ∧ xs.all flatV = true ∧ inV x xs = b) : Ed c ρ (tOp (rIn c.K neg) ta tb) (.bool (if neg then !b else b)) ρ2 :=
  ed_op ha hb fun T σ H x y W hx hy Q q => by
    rcases hs with rfl | rfl
    · obtain ⟨a, xs, rfl, sq, all⟩ := dp_lst hy
      obtain ⟨f1, f2, f3⟩ := hi _ _ _ hx all
      exact ⟨a, xs, rfl, .inl (ex_l (hide_ex _ _) sq), f1, f2, by rw [f3]; exact q _ H (W.push (.bl _))⟩
    · obtain ⟨a, xs, rfl, sq, all⟩ := dp_tup hy
      obtain ⟨f1, f2, f3⟩ := hi _ _ _ hx all
      exact ⟨a, xs, rfl, .inr (ex_p (hide_ex _ _) sq).sq, f1, f2, by rw [f3]; exact q _ H (W.push (.bl _))⟩
theorem in_ints {K : PySem.W.Frag} {i : Int} {l : List Int} (H : Hp) (x : V) (xs : List V) (hx : Dz K H x (.int i)) (h : DzAll K H xs (l.map .int)) : flatV x = true ∧ xs.all flatV = true ∧ inV x xs = decide (i ∈ l) := by
  rw [dp_int hx, dpaInts h]
  exact ⟨rfl, flat_ints l, inV_int i l⟩
theorem in_strs {K : PySem.W.Frag} {i : Str} {l : List Str} (H : Hp) (x : V) (xs : List V) (hx : Dz K H x (.str i)) (h : DzAll K H xs (l.map .str)) : flatV x = true ∧ xs.all flatV = true ∧ inV x xs = decide (i ∈ l) := by
  rw [dp_str hx, dpaStrs h]
  exact ⟨rfl, flat_strs l, inV_str i l⟩
theorem ed_inLI {i : Int} {l : List Int} (ha : Ed c ρ ta (.int i) ρ1) (hb : Ed c ρ1 tb (.list (l.map .int)) ρ2) : Ed c ρ (tOp (rIn c.K false) ta tb) (.bool (decide (i ∈ l))) ρ2 := ed_inSq (.inl rfl) ha hb in_ints
theorem ed_inTI {i : Int} {l : List Int} (ha : Ed c ρ ta (.int i) ρ1) (hb : Ed c ρ1 tb (.tuple (l.map .int)) ρ2) : Ed c ρ (tOp (rIn c.K false) ta tb) (.bool (decide (i ∈ l))) ρ2 := ed_inSq (.inr rfl) ha hb in_ints
theorem ed_ninLI {i : Int} {l : List Int} (ha : Ed c ρ ta (.int i) ρ1) (hb : Ed c ρ1 tb (.list (l.map .int)) ρ2) : Ed c ρ (tOp (rIn c.K true) ta tb) (.bool (!decide (i ∈ l))) ρ2 := ed_inSq (neg := true) (.inl rfl) ha hb in_ints
theorem ed_ninTI {i : Int} {l : List Int} (ha : Ed c ρ ta (.int i) ρ1) (hb : Ed c ρ1 tb (.tuple (l.map .int)) ρ2) : Ed c ρ (tOp (rIn c.K true) ta tb) (.bool (!decide (i ∈ l))) ρ2 := ed_inSq (neg := true) (.inr rfl) ha hb in_ints
theorem ed_inTS {i : Str} {l : List Str} (ha : Ed c ρ ta (.str i) ρ1) (hb : Ed c ρ1 tb (.tuple (l.map .str)) ρ2) : Ed c ρ (tOp (rIn c.K false) ta tb) (.bool (decide (i ∈ l))) ρ2 := ed_inSq (.inr rfl) ha hb in_strs
theorem ed_ninTS {i : Str} {l : List Str} (ha : Ed c ρ ta (.str i) ρ1) (hb : Ed c ρ1 tb (.tuple (l.map .str)) ρ2) : Ed c ρ (tOp (rIn c.K true) ta tb) (.bool (!decide (i ∈ l))) ρ2 := ed_inSq (neg := true) (.inr rfl) ha hb in_strs
/-! range(a, b, -1) -/
def rngDn (a b : Int) : List Int := (List.range (a - b).toNat).map fun (i : Nat) => a - (i : Int)
theorem ei_rngDn {a b : Int} (h : Ed c ρ ta (.int a) ρ1) (h2 : Ed c ρ1 tb (.int b) ρ2) (h3 : Ed c ρ2 tc (.int (-1)) ρ3) (hn : (-4000000000 ≤ a ∧ a ≤ 4000000000) ∧ -4000000000 ≤ b ∧ b ≤ 4000000000) :
    Ei c ρ (iRng3 (tCons ta (tCons tb (tCons tc tNil)))) ((rngDn a b).map fun (i : Int) => Itm.hard (PyData.int i)) ρ3 := fun T σ H W R q => h T σ H W _ fun v H1 W1 => h2 _ σ H1 W1 _ fun w H2 W2 => h3 _ σ H2 W2 _ fun z H3 W3 => by
  refine ⟨a, b, -1, (a - b).toNat, by rw [dp_int W3.pop.pop.dp, dp_int W3.pop.dp, dp_int W3.dp], RgC.neg (by omega) (by omega) (by omega) (by omega), q _ H3 [] W3.pop.pop.pop ?_⟩
  intro c' T' σ' H' ρ' hK W'
  have hl : ((rngDn a b).map fun (i : Int) => Itm.hard (PyData.int i)).length = (a - b).toNat := by unfold rngDn; simp
  rw [hl]
  refine ⟨fun i hi => ⟨hi, fun x H4 hy => ?_⟩, fun i hi => hi⟩
  obtain ⟨rfl, rfl⟩ := hy
  refine ⟨.hard (.int (a - (i : Int))), ?_, ?_⟩
  · unfold rngDn
    rw [List.map_map, List.getElem?_map, List.getElem?_range hi]; rfl
  · have e : a + ((i : Nat) : Int) * -1 = a - (i : Int) := by omega
    rw [e]
    exact W'.push (.int _)
/-! the last place of a list -/
variable {D : Ends} {nx bk ct : L2.St → Hp → Prop} {rt : VK}
theorem s_setLast {α : Type} {f : α → PyData} {i : Nat} {l : Bool} {a : Addr} {xs : List α} {x : α} {j : Int} (h : Ed c ρ te (f x) ρ1) (hj : Ed c ρ1 tb (.int j) ρ2) (h0 : ∃ l o, ρ1[i]? = some (.mu l a o)) (ha : ρ2[i]? = some (.mu l a (.lst (xs.map f)))) (hn : j = -1 ∧ 0 < xs.length)
    (k : Sk c T (ρ2.set i (.mu l a (.lst ((xs.set (xs.length - 1) x).map f)))) nx) : Ss c T ρ (tAsg te (gSub (tVar i) tb rSetL)) ⟨nx, rt, bk, ct⟩ :=
  s_setL h hj h0 ha (n := xs.length - 1) (by
    obtain ⟨rfl, h0⟩ := hn
    unfold ixN
    rw [if_neg (by decide), if_pos (by rw [List.length_map]; omega)]
    congr 1
    rw [List.length_map]; omega) (by rw [← List.map_set]; exact k)
end
/-- the items of a list within a comprehension: K said, that no name of the inner block goes into the walk's word -/
theorem pi_listK {X : Cx} {tg l : Expr} {tl : TE} (K : PySem.W.Frag) (hl : PE X l tl) (e : X.K = K := by rfl) : PI X tg l (iList K tl) := e ▸ pi_list hl
section
variable {c : Cz} {ρ ρ1 : List Sl} {T : Tm} {nx bk ct : L2.St → Hp → Prop} {rt : VK}
theorem aa3 {K : PySem.W.Frag} {H : Hp} {vs : List V} {d d1 d2 : PyData} (a : AA K H vs [.dat d, .dat d1, .dat d2]) : ∃ u v w, vs = [u, v, w] ∧ Dz K H u d ∧ Dz K H v d1 ∧ Dz K H w d2 := by
  cases a with
  | dat h t =>
    obtain ⟨v, w, rfl, h2, h3⟩ := aa2 t
    exact ⟨_, v, w, rfl, h, h2, h3⟩
/-- a, b, d = x, y, z -/
theorem s_par3 {i j l : Nat} {x y z : PyData} {tp : TA} (h : Ea c ρ tp [.dat x, .dat y, .dat z] ρ1) (k : Sk c T (((ρ1.set i (.da x)).set j (.da y)).set l (.da z)) nx) : Ss c T ρ (tPar3 i j l tp) ⟨nx, rt, bk, ct⟩ := fun σ H W => h T σ H W _ fun vs H1 a W1 => by
  obtain ⟨u, v, w, rfl, h1, h2, h3⟩ := aa3 a
  refine ⟨u, v, w, rfl, ?_⟩
  have W2 := (((W1.push h3).push h2).push h1).setD i h1
  have W3 := W2.pop.setD j (W2.tmp (v, y) (by simp))
  have W4 := W3.pop.setD l (W3.tmp (w, z) (by simp))
  exact k _ _ W4.pop
end
end Nz

/-! set(a list of kints), and that set sorted -/
namespace Nz
open PySem PySem.Spec PyProof.Rows L2 RZ
section
variable {P : Program} {w : World} {A : Around} {E : Value → Shared → Prop} {s : Shared}
abbrev noneIn (w : World) : Obj := { cls := .type "set", dict := none, data := .set #[] 0 (.fresh 0 0 (!w.params.followText "set-order")) }
set_option maxHeartbeats 8000000 in
theorem list_toSet {at_ : Addr} {vals : Array Value} (ks : List Int) {Q : Value → Shared → Prop} (calm : A.handled = none) (isL : s.heap.IsList at_ vals) (kints : IntsAre vals.toList ks) (few : ks.length + 1 < scanBound)
    (fin_ : ∀ (g' : Heap) (n c : Nat), SetR w g' s.heap.objs.size (fun j => decide (j ∈ ks)) c → c ≤ ks.length → (∀ b o, s.heap.get? b = some o → g'.get? b = some o) → Q (.ref s.heap.objs.size) { s with heap := g', toks := n }) :
    wpAny (model P w) A (call (.type "set") [.ref at_]) Q E s := by
  have size_ks : vals.size = ks.length := by have z := IntsAre.length kints; rwa [Array.length_toList] at z
  obtain ⟨cc, ctl, order⟩ := F.called_set.mro
  have made_ := F.called_set.made; have sub_ := F.called_set.sub; have kind1 := F.called_set.notType; have kind2 := F.called_set.canCreate; have called := F.typeCall_set_1 (.ref at_)
  refine wpAny_call (codeAny_of_tree ?_); show wpAny _ _ (callAny (.type "set") _) _ _ _
  refine wpAny_pure ⟨Code.quiet_builtin _ (by decide +kernel), codeAny_builtin F.entry_type_call ?_⟩; rw [Around.under_plain (weight_type_call_type "set" [.ref at_] []) rfl]
  repeat (any_goals (first | wp_step | assumption))
  refine codeAny_mono (code_set_led1 (.ref at_) (E := E) (Q₁ := fun z s₁ => z = .ref s.heap.objs.size ∧ s₁ = { s with heap := s.heap.push (noneIn w) }) ⟨rfl, rfl⟩) fun res s₁ hres => ?_
  match res, hres with
  | .error _, hres => exact hres
  | .ok (.ret z), hres =>
    obtain ⟨rfl, rfl⟩ := hres
    have newS : (s.heap.push (noneIn w)).get? s.heap.objs.size = some (noneIn w) := Heap.get?_push_size _ rfl
    have tyS : Shared.TypeIs { s with heap := s.heap.push (noneIn w) } (.ref s.heap.objs.size) "set" := ⟨_, newS, rfl⟩
    have look := F.called_set.init.lookup; have bind_ := F.called_set.init.bind (.ref s.heap.objs.size)
    repeat (any_goals (first | wp_step | assumption))
    refine codeAny_mono (codeAny_call_builtin (R := wants (fun z s₂ => z = .none ∧ ∃ g' n c, s₂ = { s with heap := g', toks := n } ∧ SetR w g' s.heap.objs.size (fun j => decide (j ∈ ks)) c ∧ c ≤ ks.length ∧ ∀ b o, s.heap.get? b = some o → g'.get? b = some o) E)
      F.called_set.init.plain F.entry_set_init (check_set_init_1 tyS ?_)) fun res₂ s₂ hres₂ => ?_
    · obtain ⟨oL, getL, clsL, nL, datL⟩ := isL
      obtain ⟨kcls, kdict, kdata, kslots⟩ := oL
      dsimp only at clsL datL
      subst clsL datL
      have getL2 : (s.heap.push (noneIn w)).get? at_ = some { cls := .type "list", dict := kdict, data := .seq vals nL, slots := kslots } := Heap.get?_push_of_some _ getL
      have no1 := F.sub_list_set; have no2 := F.sub_list_frozenset
      have no3 : (Value.type "list" == Value.type "dict") = false := by decide
      have isL2 : (s.heap.push (noneIn w)).IsList at_ vals := ⟨_, getL2, rfl, nL, rfl⟩
      unfold Builtin.«set.__init__» noKeywords Builtin.Frozenset.updateFrom
      generalize hPI : pyIter = PI
      wp_walk
      subst hPI
      refine wpAny_pyIter_list isL2 (wpAny_bind (wpAny_runValue ?_))
      have ltL : at_ < s.heap.objs.size := Heap.lt_size getL
      have calm3 : A.in1.in1.in1.handled = none := by simp [calm]
      have neI : at_ ≠ (s.heap.push (noneIn w)).objs.size := (Heap.size_push ..).symm ▸ Nat.ne_of_lt (Nat.lt_succ_of_lt ltL)
      have out_ : s.heap.objs.size ∉ [(s.heap.push (noneIn w)).objs.size, at_] := by
        rw [Heap.size_push]; intro hm; rcases List.mem_cons.mp hm with e | e
        · exact absurd e (Nat.ne_of_lt (Nat.lt_succ_self _))
        · exact absurd (List.mem_singleton.mp e) (Nat.ne_of_gt ltL)
      have item_ : ∀ (i : Nat) (v : Value), vals[i]? = some v → ∃ k t, ks[i]? = some k ∧ v = .int k t := fun i v hv => by
        have hi : i < ks.length := by rw [← size_ks]; exact (Array.getElem?_eq_some_iff.mp hv).1
        obtain ⟨t, e⟩ := IntsAre.int_at kints i v (by rw [Array.getElem?_toList]; exact hv)
        exact ⟨ks[i], t, List.getElem?_eq_getElem hi, by rw [e, List.getD_eq_getElem?_getD, List.getElem?_eq_getElem hi] <;> rfl⟩
      refine set_update_ints ((Walks.list calm3 _ at_ neI vals).toS) s.heap.objs.size out_ ks size_ks few item_ (vals.size - 0) 0 _ (by omega) (Nat.zero_le _) ⟨⟨_, Heap.get?_push_size _ rfl, rfl, rfl⟩, (isL2.push _)⟩ ?h0 ?h1
      case h0 => exact ⟨0, Nat.le_refl 0, setR_new_at (Heap.get?_push_of_some _ newS)⟩
      case h1 =>
        intro s' c' mv hc' hS'
        have e1 := mv.gens; have e2 := mv.drawn; have e3 := mv.os; have keep := mv.heap
        obtain ⟨g', gn', dr', tk', os'⟩ := s'
        dsimp only at e1 e2 e3 hS' keep
        subst e1 e2 e3
        show wpAny _ _ _ _ _ _
        refine wpAny_pure ?_
        show wpAny _ _ (ret Value.none) _ _ _
        refine wpAny_pure ⟨rfl, g', tk', c', rfl, hS', by omega, fun b o e => ?_⟩
        have lb : b < s.heap.objs.size := Heap.lt_size e
        refine keep b o ?_ (Heap.get?_push_of_some _ (Heap.get?_push_of_some _ e))
        intro hm; rcases List.mem_cons.mp hm with q | q
        · exact absurd q (Nat.ne_of_lt lb)
        · refine absurd (List.mem_singleton.mp q) ?_
          rw [Heap.size_push]; exact Nat.ne_of_lt (Nat.lt_succ_of_lt lb)
    · match res₂, hres₂ with
      | .error _, hres₂ => exact hres₂
      | .ok (.ret z), hres₂ =>
        obtain ⟨rfl, g', n, c, rfl, hS', hc', keep⟩ := hres₂
        repeat (any_goals (first | wp_step | assumption))
        exact fin_ _ _ _ hS' hc' keep
end
section
variable {X : Cx}
/-- set(a list of kints) -/
def rSetLI (K : PySem.W.Frag) (w : World) : List V → Hp → VK → Prop := fun xs H Q => ∃ (a : Addr) (ns : List Int), xs = [.ref a] ∧ SqL K H a (ns.map V.int) ∧ ns.length < 64 ∧ ∀ p c, H p = none → c ≤ ns.length → Q (.ref p) (upd H p (SetO w p (fun j => decide (j ∈ ns)) c))
theorem cr_setLI (hc : X.calm = true) : CallR X (.type "set") (rSetLI X.K X.w) := by
  intro pins s σ H xs us Q I r h
  obtain ⟨a, ns, rfl, hl, h64, q⟩ := h
  obtain ⟨its, rv, pl, hz⟩ := I.list hl
  rw [Vals.ref1 r]
  refine list_toSet ns (I.ok.hd hc) pl.isList (by simpa using rv.ints) (by unfold scanBound; omega) fun g' n c R hle keep => ?_
  exact ⟨.ref _, upd H s.heap.objs.size (SetO X.w s.heap.objs.size (fun j => decide (j ∈ ns)) c), I.laid (t' := n) keep (Nat.le_refl _) (setO_new R), rfl, q _ _ (I.hok.fresh (Nat.le_refl _)) hle⟩
end
end Nz

/-! dicts with ints as keys; sorted ints; sets of ints sorted -/
namespace Nz
open PySem PySem.Spec PyProof.Rows L2 RZ
section
variable {κ : Type} [DecidableEq κ] {β γ : Type}
def putP (l : List (κ × β)) (k : κ) (x : β) : List (κ × β) :=
  match l.any (fun p => decide (p.1 = k)) with
  | true => l.map fun p => if p.1 = k then (p.1, x) else p
  | false => l ++ [(k, x)]
def valP (l : List (κ × β)) (k : κ) : Option β := (l.find? fun p => decide (p.1 = k)).map Prod.snd
theorem putP_len (l : List (κ × β)) (k : κ) (x : β) : (putP l k x).length ≤ l.length + 1 := by unfold putP; split <;> simp
theorem putP_keys {l : List (κ × β)} {k : κ} {x : β} {j : κ} : j ∈ (putP l k x).map Prod.fst ↔ j = k ∨ j ∈ l.map Prod.fst := by
  unfold putP
  split
  · rename_i h
    rw [List.map_map]
    have e : (Prod.fst ∘ fun p : κ × β => if p.1 = k then (p.1, x) else p) = Prod.fst := by funext p; show (if p.1 = k then (p.1, x) else p).1 = p.1; split <;> rfl
    rw [e]
    constructor
    · exact Or.inr
    · rintro (rfl | h2)
      · obtain ⟨p, hp, hk⟩ := List.any_eq_true.mp h
        exact List.mem_map.mpr ⟨p, hp, of_decide_eq_true hk⟩
      · exact h2
  · rw [List.map_append, List.mem_append]
    simp
    constructor
    · rintro (h | h)
      · exact .inr h
      · exact .inl h
    · rintro (h | h)
      · exact .inr h
      · exact .inl h
theorem valP_put {l : List (κ × β)} {k j : κ} {x : β} : valP (putP l k x) j = if j = k then some x else valP l j := by
  unfold putP
  split
  · rename_i h
    unfold valP
    have e : ((fun p : κ × β => decide (p.1 = j)) ∘ fun p : κ × β => if p.1 = k then (p.1, x) else p) = fun p => decide (p.1 = j) := by
      funext p; show decide ((if p.1 = k then (p.1, x) else p).1 = j) = _; split <;> rfl
    rw [List.find?_map, e]
    cases hf : l.find? (fun p => decide (p.1 = j)) with
    | none =>
      by_cases q : j = k
      · subst q
        obtain ⟨p, hp, hk⟩ := List.any_eq_true.mp h
        exact absurd hk (List.find?_eq_none.mp hf p hp)
      · rw [if_neg q]; rfl
    | some p =>
      have hp : p.1 = j := of_decide_eq_true (List.find?_some (p := fun p : κ × β => decide (p.1 = j)) hf)
      show some (if p.1 = k then (p.1, x) else p).2 = _
      rw [hp]
      by_cases q : j = k
      · rw [if_pos q, if_pos q]
      · rw [if_neg q, if_neg q]; rfl
  · rename_i h
    unfold valP
    rw [List.find?_append]
    by_cases e : j = k
    · subst e
      have : List.find? (fun p => decide (p.1 = j)) l = none := by
        rw [List.find?_eq_none]
        intro p hp
        have := List.any_eq_false.mp h p hp
        simpa using this
      rw [this]; simp
    · rw [if_neg e]
      have : List.find? (fun p : κ × β => decide (p.1 = j)) [(k, x)] = none := by
        simp; exact fun z => e z.symm
      rw [this, Option.or_none]
theorem putP_map {κ' : Type} [DecidableEq κ'] {e : κ → κ'} (he : ∀ a b, e a = e b → a = b) (f : β → γ) (l : List (κ × β)) (k : κ) (x : β) : (putP l k x).map (fun p => (e p.1, f p.2)) = putP (l.map fun p => (e p.1, f p.2)) (e k) (f x) := by
  have d : ∀ a : κ, decide (e a = e k) = decide (a = k) := fun a => by
    by_cases q : a = k
    · subst q; simp
    · rw [decide_eq_false q, decide_eq_false fun z => q (he _ _ z)]
  unfold putP
  have ea : (l.map fun p => (e p.1, f p.2)).any (fun p => decide (p.1 = e k)) = l.any fun p => decide (p.1 = k) := by
    rw [List.any_map]; congr 1; funext p; exact d p.1
  rw [ea]
  split
  · rw [List.map_map, List.map_map]
    refine List.map_congr_left fun p _ => ?_
    show (e (if p.1 = k then (p.1, x) else p).1, f (if p.1 = k then (p.1, x) else p).2) = if e p.1 = e k then (e p.1, f x) else (e p.1, f p.2)
    by_cases q : p.1 = k
    · rw [if_pos q, if_pos (congrArg e q)]
    · rw [if_neg q, if_neg fun z => q (he _ _ z)]
  · rw [List.map_append]; rfl
theorem valP_map {κ' : Type} [DecidableEq κ'] {e : κ → κ'} (he : ∀ a b, e a = e b → a = b) (f : β → γ) (l : List (κ × β)) (k : κ) : valP (l.map fun p => (e p.1, f p.2)) (e k) = (valP l k).map f := by
  have d : ((fun p : κ' × γ => decide (p.1 = e k)) ∘ fun p : κ × β => (e p.1, f p.2)) = fun p => decide (p.1 = k) := by
    funext p
    show decide (e p.1 = e k) = _
    by_cases q : p.1 = k
    · rw [q]; simp
    · rw [decide_eq_false q, decide_eq_false fun z => q (he _ _ z)]
  unfold valP
  rw [List.find?_map, d, Option.map_map, Option.map_map]
  rfl
end
/-! what the machine's tables say of data -/
section
variable {κ : Type} [DecidableEq κ] {K : PySem.W.Frag} {H : Hp}
theorem kvd_len {xs : List (κ × V)} {ks : List (κ × PyData)} (h : KVd K H xs ks) : xs.length = ks.length := Paired.length h
theorem kvd_keys : ∀ {xs : List (κ × V)} {ks : List (κ × PyData)}, KVd K H xs ks → xs.map Prod.fst = ks.map Prod.fst
  | _, _, .nil => rfl
  | _, _, .cons h t => by rw [List.map_cons, List.map_cons, h.1, kvd_keys t]
theorem kvd_val {k : κ} : ∀ {xs : List (κ × V)} {ks : List (κ × PyData)}, KVd K H xs ks → (∀ d, valP ks k = some d → ∃ v, valV xs k = some v ∧ Dz K H v d) ∧ (valP ks k = none → valV xs k = none)
  | _, _, .nil => ⟨fun d h => (nomatch h), fun _ => rfl⟩
  | (x :: xs), (y :: ys), .cons h t => by
    obtain ⟨i1, i2⟩ := kvd_val (k := k) t
    by_cases q : y.1 = k
    · have q' : x.1 = k := h.1.trans q
      rw [valV_pos q']
      have e : valP (y :: ys) k = some y.2 := by unfold valP; rw [List.find?_cons]; simp [q]
      rw [e]
      exact ⟨fun d z => ⟨x.2, rfl, Option.some.inj z ▸ h.2⟩, fun z => by cases z⟩
    · have q' : ¬ x.1 = k := fun z => q (h.1.symm.trans z)
      rw [valV_neg q']
      have e : valP (y :: ys) k = valP ys k := by unfold valP; rw [List.find?_cons]; simp [q]
      rw [e]
      exact ⟨i1, i2⟩
theorem kvd_any {k : κ} : ∀ {xs : List (κ × V)} {ks : List (κ × PyData)}, KVd K H xs ks → (xs.any fun p => decide (p.1 = k)) = ks.any fun p => decide (p.1 = k)
  | _, _, .nil => rfl
  | _, _, .cons h t => by rw [List.any_cons, List.any_cons, h.1, kvd_any t]
theorem kvd_snoc {k : κ} {v : V} {d : PyData} (hv : Dz K H v d) : ∀ {xs : List (κ × V)} {ks : List (κ × PyData)}, KVd K H xs ks → KVd K H (xs ++ [(k, v)]) (ks ++ [(k, d)])
  | _, _, .nil => .cons ⟨rfl, hv⟩ .nil
  | _, _, .cons h t => .cons h (kvd_snoc hv t)
theorem kvd_repl {k : κ} {v : V} {d : PyData} (hv : Dz K H v d) : ∀ {xs : List (κ × V)} {ks : List (κ × PyData)}, KVd K H xs ks → KVd K H (xs.map fun p => if p.1 = k then (p.1, v) else p) (ks.map fun p => if p.1 = k then (p.1, d) else p)
  | _, _, .nil => .nil
  | (x :: xs), (y :: ys), .cons h t => by
    refine .cons ?_ (kvd_repl hv t)
    show (if x.1 = k then (x.1, v) else x).1 = (if y.1 = k then (y.1, d) else y).1 ∧ Dz K H (if x.1 = k then (x.1, v) else x).2 (if y.1 = k then (y.1, d) else y).2
    by_cases q : y.1 = k
    · rw [if_pos q, if_pos (h.1.trans q)]; exact ⟨h.1, hv⟩
    · rw [if_neg q, if_neg fun z => q (h.1.symm.trans z)]; exact h
theorem kvd_put {k : κ} {v : V} {d : PyData} {xs : List (κ × V)} {ks : List (κ × PyData)} (h : KVd K H xs ks) (hv : Dz K H v d) : KVd K H (putK xs k v) (putP ks k d) := by
  unfold putK putP
  have e := kvd_any (k := k) h
  cases q : ks.any fun p => decide (p.1 = k) with
  | true => rw [q] at e; rw [if_pos e]; exact kvd_repl hv h
  | false => rw [q] at e; rw [if_neg (by rw [e]; decide)]; exact kvd_snoc hv h
end
theorem inl_inj (a b : Int) (h : (Sum.inl a : Key) = Sum.inl b) : a = b := Sum.inl.inj h
abbrev eD {α : Type} (f : α → PyData) (l : List (Int × α)) : List (Key × PyData) := l.map fun p => (Sum.inl p.1, f p.2)
theorem eD_put {α : Type} (f : α → PyData) (l : List (Int × α)) (k : Int) (x : α) : putP (eD f l) (Sum.inl k) (f x) = eD f (putP l k x) := (putP_map inl_inj f l k x).symm
theorem eD_val {α : Type} (f : α → PyData) (l : List (Int × α)) (k : Int) : valP (eD f l) (Sum.inl k) = (valP l k).map f := valP_map inl_inj f l k
/-! ints, sorted -/
def sortI (l : List Int) : List Int := l.mergeSort fun a b => decide (a ≤ b)
theorem sortI_perm (l : List Int) : (sortI l).Perm l := List.mergeSort_perm l _
theorem sortI_asc (l : List Int) : (sortI l).Pairwise (· ≤ ·) := by
  have h := List.pairwise_mergeSort (le := fun a b : Int => decide (a ≤ b)) (fun a b c h1 h2 => by simp at *; omega) (fun a b => by simp; omega) l
  exact h.imp fun {a b} z => of_decide_eq_true z
theorem sortI_len (l : List Int) : (sortI l).length = l.length := (sortI_perm l).length_eq
theorem sortI_mem {l : List Int} {x : Int} : x ∈ sortI l ↔ x ∈ l := (sortI_perm l).mem_iff
theorem sortI_un {l ys : List Int} (h : ys.Perm l) (h2 : ys.Pairwise (· ≤ ·)) : ys = sortI l :=
  List.Perm.eq_of_pairwise (fun a b _ _ h1 h2 => by omega) h2 (sortI_asc l) (h.trans (sortI_perm l).symm)
/-- each once, ascending -/
def dd1 : List Int → List Int
  | [] => []
  | a :: l => if a ∈ l then dd1 l else a :: dd1 l
theorem dd1_mem : ∀ {l : List Int} {x : Int}, x ∈ dd1 l ↔ x ∈ l
  | [], _ => Iff.rfl
  | a :: l, x => by
    unfold dd1
    split
    · rename_i h
      rw [dd1_mem, List.mem_cons]
      exact ⟨.inr, fun z => z.elim (fun e => e ▸ h) id⟩
    · rw [List.mem_cons, List.mem_cons, dd1_mem]
theorem dd1_nodup : ∀ l : List Int, (dd1 l).Nodup
  | [] => .nil
  | a :: l => by
    unfold dd1
    split
    · exact dd1_nodup l
    · rename_i h
      exact List.nodup_cons.mpr ⟨fun z => h (dd1_mem.mp z), dd1_nodup l⟩
theorem dd1_len : ∀ l : List Int, (dd1 l).length ≤ l.length
  | [] => Nat.le_refl _
  | a :: l => by
    unfold dd1
    have := dd1_len l
    split
    · rw [List.length_cons]; omega
    · rw [List.length_cons, List.length_cons]; omega
def sortU (l : List Int) : List Int := sortI (dd1 l)
theorem sortU_len (l : List Int) : (sortU l).length ≤ l.length := by unfold sortU; rw [sortI_len]; exact dd1_len l
theorem sortU_mem {l : List Int} {x : Int} : x ∈ sortU l ↔ x ∈ l := by unfold sortU; rw [sortI_mem, dd1_mem]
theorem asc_strict : ∀ {l : List Int}, l.Pairwise (· ≤ ·) → l.Nodup → l.Pairwise (· < ·)
  | [], _, _ => .nil
  | a :: l, h, n => by
    rw [List.pairwise_cons] at h ⊢
    rw [List.nodup_cons] at n
    exact ⟨fun b hb => by have := h.1 b hb; have : a ≠ b := fun e => n.1 (e ▸ hb); omega, asc_strict h.2 n.2⟩
theorem sortU_asc (l : List Int) : (sortU l).Pairwise (· < ·) := asc_strict (sortI_asc _) ((sortI_perm _).nodup_iff.mpr (dd1_nodup l))
theorem strict_nodup {l : List Int} (h : l.Pairwise (· < ·)) : l.Nodup := h.imp fun {a b} z e => by omega
theorem sortU_un {l ys : List Int} (h : ys.Pairwise (· < ·)) (h2 : ∀ x, x ∈ ys ↔ x ∈ l) : ys = sortU l := by
  refine List.Perm.eq_of_pairwise (le := (· < ·)) (fun a b _ _ h1 h2 => by omega) h (sortU_asc l) ?_
  exact (List.perm_ext_iff_of_nodup (strict_nodup h) (strict_nodup (sortU_asc l))).mpr fun x => by rw [h2, sortU_mem]
/-! ### the machine: dicts in slots -/
section
variable {c : Cz} {ρ ρ1 ρ2 ρ3 : List Sl} {ta tb te tv ty : TE} {t u : TT} {d d1 d2 d3 : PyData} {T : Tm} {H H' : Hp} {σ : L2.St}
variable {D : Ends} {ts tu : TS} {g : TG} {nx bk ct : L2.St → Hp → Prop} {rt : VK}
/-- x = {} -/
theorem s_asgD {i : Nat} (k : ∀ p, Sk c T (ρ.set i (.mu true p (.dK []))) nx) : Ss c T ρ (tAsg tDNewK (gName i)) ⟨nx, rt, bk, ct⟩ := fun σ H W p hp =>
  k p _ _ ((W.hideNew (o := .dK []) hp).setM W.sub i (by rw [if_pos rfl]; exact W.freshB hp) (W.fresh hp) ⟨[], upd_same, .nil⟩)
theorem upd_hid {a : Addr} {S : List Addr} {o : HO} (h : a ∈ S) : Ex (hide S H) (hide S (upd H a o)) := hide_mono fun b u nb e => ⟨nb, by rw [upd_ne (fun q => nb (by rw [q]; exact h))]; exact e⟩
/-- x[k] = v, of a dict -/
theorem s_dput {i : Nat} {l : Bool} {a : Addr} {ks : List (Key × PyData)} {k : Int} (hv : Ed c ρ tv d ρ1) (hk : Ed c ρ1 ty (.int k) ρ2) (h0 : ∃ l o, ρ1[i]? = some (.mu l a o)) (ha : ρ2[i]? = some (.mu l a (.dK ks))) (hz : ks.length < 100000)
    (kk : Sk c T (ρ2.set i (.mu l a (.dK (putP ks (Sum.inl k) d)))) nx) : Ss c T ρ (sDPut (tVar i) ty tv) ⟨nx, rt, bk, ct⟩ := fun σ H W => hv T σ H W _ fun v H1 W1 => by
  obtain ⟨l0, o0, h0⟩ := h0
  refine ⟨.ref a, (W1.ok i _ h0).1, hk _ σ H1 W1 _ fun w H2 W2 => ?_⟩
  obtain ⟨_, _, xs, e3, e4⟩ := W2.ok i _ ha
  refine ⟨a, _, rfl, by rw [dp_int W2.dp]; exact DPut.k (k := Sum.inl k) e3 (by rw [kvd_len e4]; exact Nat.lt_of_lt_of_le hz (by decide)), ?_⟩
  have hm : a ∈ hid c ρ2 := List.mem_append_right _ (mem_muts.mpr ⟨i, l, _, ha⟩)
  exact kk _ _ (W2.pop.pop.updM ha ⟨_, upd_same, (kvd_put e4 W2.pop.dp).mono (upd_hid hm)⟩)
/-- x[k], of a dict that holds it -/
theorem ed_dget {i : Nat} {l : Bool} {a : Addr} {ks : List (Key × PyData)} {k : Int} (hk : Ed c ρ ty (.int k) ρ1) (h0 : ∃ l o, ρ[i]? = some (.mu l a o)) (ha : ρ1[i]? = some (.mu l a (.dK ks))) (e : valP ks (Sum.inl k) = some d) :
    Ed c ρ (tDGet (tVar i) ty) d ρ1 := fun T σ H W Q q => by
  obtain ⟨l0, o0, h0⟩ := h0
  refine ⟨.ref a, (W.ok i _ h0).1, hk _ σ H W _ fun w H1 W1 => ?_⟩
  obtain ⟨_, _, xs, e3, e4⟩ := W1.ok i _ ha
  obtain ⟨v, e5, e6⟩ := (kvd_val e4).1 d e
  exact ⟨a, v, rfl, by rw [dp_int W1.dp, ← e5]; exact DGet.k (k := Sum.inl k) e3, q v H1 (W1.pop.push e6)⟩
/-- x.get(k, e) -/
theorem ed_dget2 {i : Nat} {l : Bool} {a : Addr} {ks : List (Key × PyData)} {k : Int} (hk : Ed c ρ ty (.int k) ρ1) (hd : Ed c ρ1 te d1 ρ2) (h0 : ρ[i]? = some (.mu l a (.dK ks))) (ha : ρ2[i]? = some (.mu l a (.dK ks))) (e : (valP ks (Sum.inl k)).getD d1 = d) :
    Ed c ρ (tDGet2 (tVar i) ty te) d ρ2 := fun T σ H W Q q => by
  obtain ⟨_, _, ys, e1, _⟩ := W.ok i _ h0
  refine ⟨.ref a, (W.ok i _ h0).1, a, rfl, .inl ⟨ys, .inl e1⟩, hk _ σ H W _ fun w H1 W1 => hd _ σ H1 W1 _ fun z H2 W2 => ?_⟩
  obtain ⟨_, _, xs, e3, e4⟩ := W2.ok i _ ha
  have hw := dp_int W2.pop.dp
  refine ⟨valV xs (Sum.inl k), by rw [hw]; exact DGet.k (k := Sum.inl k) e3, ?_⟩
  obtain ⟨k1, k2⟩ := kvd_val (k := (Sum.inl k : Key)) e4
  cases hv : valP ks (Sum.inl k : Key) with
  | none =>
    rw [hv] at e
    rw [k2 hv]
    have e : d1 = d := e
    subst e
    exact q _ H2 (W2.pop.pop.push W2.dp)
  | some d' =>
    rw [hv] at e
    obtain ⟨v, e5, e6⟩ := k1 d' hv
    rw [e5]
    have e : d' = d := e
    subst e
    exact q _ H2 (W2.pop.pop.push e6)
/-- k in x, k not in x -/
theorem ed_din {i : Nat} {l : Bool} {a : Addr} {ks : List (Key × PyData)} {k : Int} (hk : Ed c ρ ty (.int k) ρ1) (ha : ρ1[i]? = some (.mu l a (.dK ks))) : Ed c ρ (tDIn ty (tVar i)) (.bool (valP ks (Sum.inl k)).isSome) ρ1 := fun T σ H W Q q => hk T σ H W _ fun w H1 W1 => by
  obtain ⟨h1, _, xs, e3, e4⟩ := W1.ok i _ ha
  obtain ⟨k1, k2⟩ := kvd_val (k := (Sum.inl k : Key)) e4
  refine ⟨_, h1, a, valV xs (Sum.inl k), rfl, by rw [dp_int W1.dp]; exact DGet.k (k := Sum.inl k) e3, ?_⟩
  have e : (valV xs (Sum.inl k : Key)).isSome = (valP ks (Sum.inl k : Key)).isSome := by
    cases hv : valP ks (Sum.inl k : Key) with
    | none => rw [k2 hv]; rfl
    | some d' => obtain ⟨v, e5, _⟩ := k1 d' hv; rw [e5]; rfl
  rw [e]
  exact q _ H1 (W1.pop.push (.bl _))
theorem ed_dnin {i : Nat} {l : Bool} {a : Addr} {ks : List (Key × PyData)} {k : Int} (hk : Ed c ρ ty (.int k) ρ1) (ha : ρ1[i]? = some (.mu l a (.dK ks))) : Ed c ρ (tDNotIn ty (tVar i)) (.bool (!(valP ks (Sum.inl k)).isSome)) ρ1 := fun T σ H W Q q => hk T σ H W _ fun w H1 W1 => by
  obtain ⟨h1, _, xs, e3, e4⟩ := W1.ok i _ ha
  obtain ⟨k1, k2⟩ := kvd_val (k := (Sum.inl k : Key)) e4
  refine ⟨_, h1, a, valV xs (Sum.inl k), rfl, by rw [dp_int W1.dp]; exact DGet.k (k := Sum.inl k) e3, ?_⟩
  have e : (valV xs (Sum.inl k : Key)).isSome = (valP ks (Sum.inl k : Key)).isSome := by
    cases hv : valP ks (Sum.inl k : Key) with
    | none => rw [k2 hv]; rfl
    | some d' => obtain ⟨v, e5, _⟩ := k1 d' hv; rw [e5]; rfl
  rw [e]
  exact q _ H1 (W1.pop.push (.bl _))
def rSortD (K : PySem.W.Frag) : List V → Hp → VK → Prop := fun xs H Q => ∃ (a : Addr) (kvs : List (Key × V)) (ks : List Int), xs = [.ref a] ∧ Rd H a (.dK kvs) ∧ kvs.map (·.1) = ks.map Sum.inl ∧ ks.length < 64 ∧
  ∀ (ys : List Int) (p : Addr), ys.Perm ks → ys.Pairwise (· ≤ ·) → H p = none → Q (.ref p) (upd H p (.lst (ys.map V.int)))
/-- sorted(x), of a dict with few keys -/
theorem el_sortD {i : Nat} {l : Bool} {a : Addr} {α : Type} {f : α → PyData} {kvs : List (Int × α)} (ha : ρ[i]? = some (.mu l a (.dK (eD f kvs)))) (hz : kvs.length < 64) : EdL c ρ (tCB (rSortD c.K) (tCons (tVar i) tNil)) ((sortI (kvs.map Prod.fst)).map .int) ρ := fun T σ H W Q q => by
  obtain ⟨h1, _, xs, e3, e4⟩ := W.ok i _ ha
  refine ⟨.ref a, h1, a, xs, kvs.map Prod.fst, rfl, .inl e3, ?_, by rw [List.length_map]; exact hz, fun ys p hp hs hn => ?_⟩
  · have := kvd_keys e4
    rw [show (fun x : Key × V => x.1) = Prod.fst from rfl, this, List.map_map, List.map_map]; rfl
  · obtain ⟨x1, x2, x3, x4⟩ := el_new W (dpa_ints ys) hn
    rw [sortI_un hp hs] at x3 x4 ⊢
    exact q p _ x1 x2 x3 x4
/-- sorted(x), of ints -/
theorem el_sortI {l : List Int} (h : Ed c ρ te (.list (l.map .int)) ρ1) : EdL c ρ (tCB (rSortedI c.K) (tCons te tNil)) ((sortI l).map .int) ρ1 := fun T σ H W Q q => h T σ H W _ fun v H1 W1 => by
  obtain ⟨a, xs, rfl, hs, h2⟩ := dp_lst W1.dp
  rw [dpaInts h2] at hs
  refine ⟨a, l, rfl, ex_l (hide_ex _ _) hs, fun ys p hp ha hn => ?_⟩
  obtain ⟨x1, x2, x3, x4⟩ := el_new W1.pop (dpa_ints ys) hn
  rw [sortI_un hp ha] at x3 x4 ⊢
  exact q p _ x1 x2 x3 x4
theorem sortU_core {w : World} {l : List Int} (hz : l.length < 64) {ρ1 : List Sl} {v : V} {H1 : Hp} (W1 : Wd c ((v, .list (l.map .int)) :: T) H1 σ ρ1) {Q : VK}
    (q : ∀ p H', c.B p = none → p ∉ hid c ρ1 → MoOk c.K (p :: hid c ρ1) H' p (.lst ((sortU l).map .int)) → Wd (c.hidden p) T H' σ ρ1 → Q (.ref p) H') : rSetLI c.K w [v] H1 fun x H2 => rSortedSet w [x] H2 Q := by
  obtain ⟨a, xs, rfl, hs, h2⟩ := dp_lst W1.dp
  rw [dpaInts h2] at hs
  refine ⟨a, l, rfl, ex_l (hide_ex _ _) hs, hz, fun p n hp hn => ?_⟩
  have W2 := W1.pop.grow (Ex.new (o := SetO w p (fun j => decide (j ∈ l)) n) hp)
  refine ⟨p, _, n, rfl, upd_same, by omega, fun ys r hy hk hl hr => ?_⟩
  obtain ⟨x1, x2, x3, x4⟩ := el_new W2 (dpa_ints ys) hr
  rw [sortU_un (l := l) hy (fun k => (hk k).trans (by simp))] at x3 x4 ⊢
  exact q r _ x1 x2 x3 x4
/-- sorted(set(x)), of ints -/
theorem el_sortU {w : World} {l : List Int} (h : Ed c ρ te (.list (l.map .int)) ρ1) (hz : l.length < 64) : EdL c ρ (tCB (rSortedSet w) (tCons (tCB (rSetLI c.K w) (tCons te tNil)) tNil)) ((sortU l).map .int) ρ1 := fun T σ H W Q q => h T σ H W _ fun v H1 W1 =>
  sortU_core hz W1 q
theorem ewl_sortU {w : World} {P : List Int → Prop} (h : Ew c ρ te (fun l : List Int => PyData.list (l.map PyData.int)) P ρ1) (hz : ∀ l, P l → l.length < 64) :
    EwL c ρ (tCB (rSortedSet w) (tCons (tCB (rSetLI c.K w) (tCons te tNil)) tNil)) (fun l : List Int => l.map PyData.int) (fun z => ∃ l, P l ∧ z = sortU l) ρ1 := fun T σ H W Q q => h T σ H W _ fun l v H1 hl W1 =>
  sortU_core (hz l hl) W1 fun p H' => q (sortU l) p H' ⟨l, hl, rfl⟩
end
end Nz

/-! (x, ..) * n; not of a list -/
namespace Nz
open PySem PySem.Spec PyProof.Rows L2 RZ
theorem tup_once (l : Addr) (items : Array Value) (n : Nat) (dd : Option Addr) (sl : Array (Option Value)) (u : Tok) :
    Meets (Builtin.«tuple.__mul__» ⟨[.ref l, .int 1 u], []⟩) (fun _ R s => s.heap.get? l = some { cls := .type "tuple", dict := dd, data := .seq items n, slots := sl } ∧ R (.ok (.ret (Value.ref l))) s) :=
  .of_wp fun prog w A R s h => by
    obtain ⟨hp, g, d, tk, os⟩ := s
    obtain ⟨hl, h⟩ := h
    have f1 := AutoSeq1.idx_int
    have c1 : (items.isEmpty || (1 : Int) == 1) = true := by rw [Bool.or_comm]; rfl
    wp_walk using wpAny_loadPart' hl
    exact ⟨_, rfl, h⟩
/-- t * k, k from 1 on -/
def rRepF (K : PySem.W.Frag) : R2 := fun x y H Q => ∃ a k xs, x = .ref a ∧ y = .int k ∧ SqT K H a xs ∧ xs ≠ [] ∧ 1 ≤ k ∧ k ≤ 1000 ∧ xs.length ≤ 1000 ∧
  (k = 1 → Q (.ref a) H) ∧ (k ≠ 1 → ∀ p o, o.dict = none → H p = none → Q (.ref p) (upd H p (.frz o (.tup (List.replicate k.toNat xs).flatten))))
section
variable {X : Cx}
theorem op_repF : OpR X (binaryOp .Mult) (rRepF X.K) := by
  intro pins s σ H x y v u Q I rx ry h
  obtain ⟨a, k, xs, rfl, rfl, isT, some_, lo, hi, few, q1, q2⟩ := h
  cases rx
  obtain ⟨tk, rfl⟩ := ry
  obtain ⟨vs, rv, ⟨⟨kcls, kd, kdata, ksl⟩, geta, cls_, cn, dat_⟩, big⟩ := I.tuple isT
  dsimp only at cls_ dat_
  subst cls_ dat_
  have len_ : vs.length = xs.length := rv.length.symm
  by_cases one_ : k = 1
  · subst one_
    refine wpAny_binaryOp_repeat_ref (T := "tuple") (U := "int") (by decide) ⟨_, geta, rfl⟩ (fun s' => typeIs_int s' 1 tk) noFill_tuple_mul F.fills_int_mul F.slot_int_rmul repeat_tuple F.slot_int_index.lookup
      (call_meets F.slot_int_rmul (typeIs_int s 1 tk) F.entry_int_rmul (F.args_int_rmul_2 _ _) (int_rmul_tuple 1 tk a vs.toArray cn kd ksl) ⟨geta, rfl, ⟨_, geta, rfl⟩, call_meets F.slot_tuple_mul ⟨_, geta, rfl⟩ F.entry_tuple_mul (F.args_tuple_mul_2 _ _) (tup_once a vs.toArray cn kd ksl tk) ⟨geta, ?_⟩⟩)
    exact ⟨.ref a, H, I, rfl, q1 rfl⟩
  · have nil_ : vs ≠ [] := fun e => some_ (List.eq_nil_of_length_eq_zero (by rw [← len_, e]; rfl))
    have em : vs.toArray.isEmpty = false := by cases vs with
      | nil => exact absurd rfl nil_
      | cons a b => rfl
    have szA : vs.toArray.size = xs.length := by rw [List.size_toArray, len_]
    have below : ((vs.toArray.size : Nat) : Int) * k ≤ 1000000 := by
      rw [szA]
      have := Int.mul_le_mul_of_nonneg_right (show ((xs.length : Nat) : Int) ≤ 1000 by omega) (show 0 ≤ k by omega)
      omega
    have below2 : k.toNat * xs.length ≤ 1000 * 1000 := Nat.mul_le_mul (by omega) few
    have out_ : (List.replicate k.toNat vs).flatten.length ≤ sizeLine := by rw [PyProof.Rows.lm_len_rep_flat, len_, sizeLine_eq]; omega
    refine wpAny_binaryOp_repeat_ref (T := "tuple") (U := "int") (by decide) ⟨_, geta, rfl⟩ (fun s' => typeIs_int s' k tk) noFill_tuple_mul F.fills_int_mul F.slot_int_rmul repeat_tuple F.slot_int_index.lookup
      (call_meets F.slot_int_rmul (typeIs_int s k tk) F.entry_int_rmul (F.args_int_rmul_2 _ _) (int_rmul_tuple k tk a vs.toArray cn kd ksl) ⟨geta, rfl, ⟨_, geta, rfl⟩, call_meets F.slot_tuple_mul ⟨_, geta, rfl⟩ F.entry_tuple_mul (F.args_tuple_mul_2 _ _)
        (tuple_mulW a vs.toArray cn kd ksl k tk (by simp; omega) (by rw [em, Bool.false_or]; exact beq_eq_false_iff_ne.mpr one_) (by rw [em, Bool.or_false]; exact decide_eq_false (by omega)) (by omega) (by unfold Builtin.Tuple.tupleTooMany; rw [sizeLine_eq]; exact decide_eq_false (by omega)) (by rw [size_rep, List.size_toArray]; exact out_)) ⟨geta, ?_⟩⟩)
    rw [size_rep]
    exact newTup I (by rw [PyProof.Rows.lm_len_rep_flat, sizeLine_eq]; omega) (rv.rep k.toNat) (q2 one_)
end
section
variable {c : Cz} {ρ ρ1 ρ2 ρ3 : List Sl} {ta tb te tx : TE} {d d1 d2 d3 : PyData} {T : Tm} {H H' : Hp} {σ : L2.St}
theorem ed_repT {α : Type} {f : α → PyData} {l : List α} {k : Int} (ha : Ed c ρ ta (.tuple (l.map f)) ρ1) (hb : Ed c ρ1 tb (.int k) ρ2) (hl : l ≠ [] ∧ l.length ≤ 1000) (hk : 1 ≤ k ∧ k ≤ 1000) : Ed c ρ (tOp (rRepF c.K) ta tb) (.tuple ((List.replicate k.toNat l).flatten.map f)) ρ2 :=
  ed_op ha hb fun T σ H x y W hx hy Q q => by
    obtain ⟨a, xs, rfl, hs, h2⟩ := dp_tup hx
    have hn := dpa_length h2
    rw [List.length_map] at hn
    have e : (List.replicate k.toNat l).flatten.map f = (List.replicate k.toNat (l.map f)).flatten := by rw [List.map_flatten, List.map_replicate]
    refine ⟨a, k, xs, rfl, dp_int hy, (ex_p (hide_ex _ _) hs).sq, fun z => hl.1 (List.eq_nil_of_length_eq_zero (by rw [← hn, z]; rfl)), hk.1, hk.2, by omega, fun h1 => ?_, fun _ p o z hp => ?_⟩
    · subst h1
      have e1 : (List.replicate (1 : Int).toNat l).flatten = l := by show ([l]).flatten = l; simp
      rw [e1] at q
      exact q _ H (W.push hx)
    · rw [e] at q
      exact q _ _ (tup_new W (dpa_rep h2 _) z hp)
theorem ed_notX {b : Bool} (h : Ed c ρ te d ρ1) (e : truD d = b) (ok : truOk d = true) : Ed c ρ (tNotT c.K te) (.bool (!b)) ρ1 := fun T σ H W Q q => h T σ H W _ fun v H1 W1 => by
  subst e
  exact ⟨_, tru_dp (dpm (hide_ex _ _) W1.dp) ok, q _ H1 (W1.pop.push (.bl _))⟩
theorem ed_notL {α : Type} {f : α → PyData} {l : List α} (h : Ed c ρ te (.list (l.map f)) ρ1) : Ed c ρ (tNotT c.K te) (.bool (!(!l.isEmpty))) ρ1 := ed_notX h (by show (!(l.map f).isEmpty) = _; cases l <;> rfl) rfl
theorem ed_notTu {α : Type} {f : α → PyData} {l : List α} (h : Ed c ρ te (.tuple (l.map f)) ρ1) : Ed c ρ (tNotT c.K te) (.bool (!(!l.isEmpty))) ρ1 := ed_notX h (by show (!(l.map f).isEmpty) = _; cases l <;> rfl) rfl
theorem s_par3W {α β γ : Type} {f : α → PyData} {g : β → PyData} {e : γ → PyData} {P : α → Prop} {P2 : β → Prop} {P3 : γ → Prop} {te1 te2 te3 : TE} {nx bk ct : L2.St → Hp → Prop} {rt : VK} {i j l : Nat} (h : Ew c ρ te1 f P ρ1) (h2 : Ew c ρ1 te2 g P2 ρ2) (h3 : Ew c ρ2 te3 e P3 ρ3)
    (k : ∀ x y z, P x → P2 y → P3 z → Sk c T (((ρ3.set i (.da (f x))).set j (.da (g y))).set l (.da (e z))) nx) : Ss c T ρ (tPar3 i j l (tCons te1 (tCons te2 (tCons te3 tNil)))) ⟨nx, rt, bk, ct⟩ := fun σ H W =>
  h T σ H W _ fun x u H1 px W1 => h2 _ σ H1 W1 _ fun y v H2 py W2 => h3 _ σ H2 W2 _ fun z w H3 pz W3 => by
    refine ⟨u, v, w, rfl, ?_⟩
    have W4 := W3.setD i W3.pop.pop.dp
    have W5 := W4.setD j W4.pop.dp
    have W6 := W5.setD l W5.dp
    exact k x y z px py pz _ _ W6.pop.pop.pop
end
end Nz

/-! sorted(a list of data) -/
namespace Nz
open PySem PySem.Spec PyProof.Rows L2 RZ PySem.W
section
variable {β : Type}
def rSortX (K : PySem.W.Frag) (enc : β → PyData) : List V → Hp → VK → Prop := fun vs H Q => ∃ (a : Addr) (xs : List V) (bs : List β) (R : V → β → Prop), vs = [.ref a] ∧ SqL K H a xs ∧ EachIs R xs bs ∧ (∀ v b, R v b → Dp K H v (enc b)) ∧
  AllAlike (bs.map enc) ∧ Sortable (bs.map enc) ∧ (∀ b ∈ bs, (enc b).depth ≤ 50) ∧ ∀ (ys : List V) (p : Addr), EachIs R ys (bs.mergeSort (dataLe false enc)) → H p = none → Q (.ref p) (upd H p (.lst ys))
theorem each_vals {X : Cx} {pins : List (Addr × Obj)} {σ : L2.St} {H : Hp} {s : Shared} (I : Inv X pins σ H s) {enc : β → PyData} {R : V → β → Prop} (hR : ∀ v b, R v b → Dp X.K H v (enc b)) :
    ∀ {xs : List V} {us : List Value} {bs : List β}, Vals xs us → EachIs R xs bs → EachIs (fun u b => ∃ x, RelV x u ∧ R x b) us bs ∧ EachIs (fun u b => ∃ as, Reads s.heap u (enc b) as) us bs
  | _, _, _, .nil, .nil => ⟨.nil, .nil⟩
  | _, _, _, .cons r rs, .cons h hs => by
    obtain ⟨i1, i2⟩ := each_vals I hR rs hs
    obtain ⟨as, rd⟩ := Dp.reads I _ _ _ (hR _ _ h) r
    exact ⟨.cons ⟨_, r, h⟩ i1, .cons ⟨as, rd⟩ i2⟩
theorem each_out {R : V → β → Prop} : ∀ {us : List Value} {bs : List β}, EachIs (fun u b => ∃ x, RelV x u ∧ R x b) us bs → ∃ ys : List V, Vals ys us ∧ EachIs R ys bs
  | _, _, .nil => ⟨[], .nil, .nil⟩
  | _, _, .cons ⟨x, r, h⟩ t => by
    obtain ⟨ys, a, b⟩ := each_out t
    exact ⟨x :: ys, .cons r a, .cons h b⟩
theorem cr_sortedX {X : Cx} {enc : β → PyData} (hu : X.A.units + 64 < cLine) : CallR X (.builtin "sorted") (rSortX X.K enc) := by
  intro pins s σ H vs us Q I r h
  obtain ⟨a, xs, bs, R, rfl, hs, he, hR, hal, hk, hd, q⟩ := h
  obtain ⟨its, rv, hl, hz⟩ := I.list hs
  rw [Vals.ref1 r]
  obtain ⟨e1, e2⟩ := each_vals I hR rv he
  have hlen := he.length
  refine sorted_data hl.isList e1 e2 hal hk (by rw [← hlen]; exact hz) (fun b hb => by have := hd b hb; omega) fun out hl2 ho => ?_
  obtain ⟨ys, r2, e3⟩ := each_out ho
  obtain ⟨ep, he'⟩ := PyProof.Rows.sortedAll_at s.heap its out.toArray
  exact ⟨.ref _, upd H (s.heap.objs.size + 1) (.lst ys), I.laid (t' := s.toks) (fun _ _ => PyProof.Rows.sortedAll_old) (Nat.le_succ _) ⟨by rw [r2.length, hl2, ← hlen]; exact hz, out, ep, r2, he'⟩, rfl, q ys _ e3 (I.hok.fresh (Nat.le_succ _))⟩
end
def sortX {β : Type} (enc : β → PyData) (l : List β) : List β := l.mergeSort (dataLe false enc)
section
variable {c : Cz} {ρ ρ1 ρ2 ρ3 : List Sl} {te : TE} {β : Type} {enc : β → PyData}
theorem each_dz {K : PySem.W.Frag} {H : Hp} : ∀ {xs : List V} {bs : List β}, DzAll K H xs (bs.map enc) → EachIs (fun v b => Dz K H v (enc b)) xs bs
  | _, [], h => by cases h; exact .nil
  | _, b :: bs, h => by
    cases h with
    | cons a t => exact .cons a (each_dz t)
theorem dz_each {K : PySem.W.Frag} {H : Hp} : ∀ {xs : List V} {bs : List β}, EachIs (fun v b => Dz K H v (enc b)) xs bs → DzAll K H xs (bs.map enc)
  | _, _, .nil => .nil
  | _, _, .cons h t => .cons h (dz_each t)
theorem el_sortX {l : List β} (h : Ed c ρ te (.list (l.map enc)) ρ1) (hal : AllAlike (l.map enc)) (hk : Sortable (l.map enc)) (hd : ∀ b ∈ l, (enc b).depth ≤ 50) : EdL c ρ (tCB (rSortX c.K enc) (tCons te tNil)) ((sortX enc l).map enc) ρ1 := fun T σ H W Q q => h T σ H W _ fun v H1 W1 => by
  obtain ⟨a, xs, rfl, hs, h2⟩ := dp_lst W1.dp
  refine ⟨a, xs, l, fun v b => Dz c.K (hide (hid c ρ1) H1) v (enc b), rfl, ex_l (hide_ex _ _) hs, each_dz h2, fun v b hv => dz_dp _ _ (dpm (hide_ex _ _) hv), hal, hk, hd, fun ys p he hp => ?_⟩
  obtain ⟨x1, x2, x3, x4⟩ := el_new W1.pop (dz_each he) hp
  exact q p _ x1 x2 x3 x4
end
theorem sortX_perm {β : Type} (enc : β → PyData) (l : List β) : (sortX enc l).Perm l := List.mergeSort_perm l _
/-- what is ascending already stays so -/
theorem sortX_id {β : Type} {enc : β → PyData} {l : List β} (h : l.Pairwise fun a b => dataLe false enc a b = true) : sortX enc l = l := List.mergeSort_of_pairwise h
end Nz

/-! a op b op c op d; extend, pop; list(range) -/
namespace Nz
open PySem PySem.Spec PyProof.Rows L2 RZ
def tChain3 (r r' r'' : R2) (ta tb tc td : TE) : TE := fun σ H Q => ta σ H fun x H1 => tb σ H1 fun y H2 => r x y H2 fun z H3 => ∃ k, z = .bl k ∧
  (if k = true then tc σ H3 fun y' H4 => r' y y' H4 fun z' H5 => ∃ k', z' = .bl k' ∧ (if k' = true then td σ H5 fun w' H6 => r'' y' w' H6 Q else Q (.bl false) H5) else Q (.bl false) H3)
section
variable {X : Cx} {a b c d : Expr} {ta tb tc td : TE} {pos : Pos}
theorem pe_chain3 {op op' op'' : CmpOp} {r r' r'' : R2} (ho : OpR X (compareOp op) r) (ho' : OpR X (compareOp op') r') (ho'' : OpR X (compareOp op'') r'') (ha : PE X a ta) (hb : PE X b tb) (hc : PE X c tc) (hd : PE X d td)
    (hm : lastMarks [op, op', op''] [b, c, d] = false := by with_unfolding_all rfl) : PE X (.Compare a [op, op', op''] [b, c, d] pos) (tChain3 r r' r'' ta tb tc td) := by
  refine ⟨fun pins s σ H Q I h => ?_⟩
  refine Compare_chain (thn (ha.run pins s σ H _ I h) fun v s1 ⟨x, H1, I1, r1, q1⟩ => chain_link (thn (hb.run pins s1 σ H1 _ I1 q1) fun u s2 ⟨y, H2, I2, r2, q2⟩ =>
    thn (ho pins s2 σ H2 x y v u _ I2 r1 r2 q2) fun e s3 ⟨z, H3, I3, r3, k, ek, q3⟩ => ?_)) hm
  subst ek; cases r3
  refine wpAny_truthy_bool ?_
  cases k with
  | false => exact ite_ff ⟨.bl false, H3, I3, rfl, q3⟩
  | true =>
    refine ite_tt (chain_link (thn (hc.run pins s3 σ H3 _ I3 q3) fun u' s4 ⟨y', H4, I4, r4, q4⟩ => thn (ho' pins s4 σ H4 y y' u u' _ I4 r2 r4 q4) fun e' s5 ⟨z', H5, I5, r5, k', ek', q5⟩ => ?_))
    subst ek'; cases r5
    refine wpAny_truthy_bool ?_
    cases k' with
    | false => exact ite_ff ⟨.bl false, H5, I5, rfl, q5⟩
    | true => exact ite_tt (chain_last (thn (hd.run pins s5 σ H5 _ I5 q5) fun w' s6 ⟨z', H6, I6, r6, q6⟩ => ho'' pins s6 σ H6 y' z' u' w' Q I6 r4 r6 q6))
theorem pt_chain3 {op op' op'' : CmpOp} {r r' r'' : R2} (ho : OpR X (compareOp op) r) (ho' : OpR X (compareOp op') r') (ho'' : OpR X (compareOp op'') r'') (ha : PE X a ta) (hb : PE X b tb) (hc : PE X c tc) (hd : PE X d td)
    (hm : lastMarks [op, op', op''] [b, c, d] = false := by with_unfolding_all rfl) : PT X (.Compare a [op, op', op''] [b, c, d] pos) (tTest (tChain3 r r' r'' ta tb tc td)) := by
  refine ⟨fun pins s σ H Q I h => ?_⟩
  refine isTrue_chain (thn (ha.run pins s σ H _ I h) fun v s1 ⟨x, H1, I1, r1, q1⟩ => test_link (thn (hb.run pins s1 σ H1 _ I1 q1) fun u s2 ⟨y, H2, I2, r2, q2⟩ =>
    thn (ho pins s2 σ H2 x y v u _ I2 r1 r2 q2) fun e s3 ⟨z, H3, I3, r3, k, ek, q3⟩ => ?_)) hm
  subst ek; cases r3
  refine wpAny_truthy_bool ?_
  cases k with
  | false =>
    obtain ⟨j, ej, q'⟩ := q3
    cases ej
    exact ite_ff ⟨H3, I3, q'⟩
  | true =>
    refine ite_tt (test_link (thn (hc.run pins s3 σ H3 _ I3 q3) fun u' s4 ⟨y', H4, I4, r4, q4⟩ => thn (ho' pins s4 σ H4 y y' u u' _ I4 r2 r4 q4) fun e' s5 ⟨z', H5, I5, r5, k', ek', q5⟩ => ?_))
    subst ek'; cases r5
    refine wpAny_truthy_bool ?_
    cases k' with
    | false =>
      obtain ⟨j, ej, q'⟩ := q5
      cases ej
      exact ite_ff ⟨H5, I5, q'⟩
    | true =>
      refine ite_tt (test_last (thn (hd.run pins s5 σ H5 _ I5 q5) fun w' s6 ⟨z', H6, I6, r6, q6⟩ => thn (ho'' pins s6 σ H6 y' z' u' w' _ I6 r4 r6 q6) fun d' s7 ⟨z2, H7, I7, r7, k2, e2, q7⟩ => ?_))
      subst e2; cases r7
      exact wpAny_truthy_bool ⟨H7, I7, q7⟩
end
section
variable {c : Cz} {ρ ρ1 ρ2 ρ3 ρ4 : List Sl} {ta tb tc td te : TE} {d d1 d2 d3 : PyData} {T : Tm} {H H' : Hp} {σ : L2.St}
variable {D : Ends} {nx bk ct : L2.St → Hp → Prop} {rt : VK}
theorem ed_chain3 {f g h : Int → Int → Bool} {i j k l : Int} (ha : Ed c ρ ta (.int i) ρ1) (hb : Ed c ρ1 tb (.int j) ρ2) (hc : Ed c ρ2 tc (.int k) ρ2) (hd : Ed c ρ2 td (.int l) ρ2) :
    Ed c ρ (tChain3 (rI0 fun i j => .bl (f i j)) (rI0 fun i j => .bl (g i j)) (rI0 fun i j => .bl (h i j)) ta tb tc td) (.bool (f i j && (g j k && h k l))) ρ2 := fun T σ H W Q q => ha T σ H W _ fun v H1 W1 => hb _ σ H1 W1 _ fun w H2 W2 =>
  ⟨i, j, dp_int W2.pop.dp, dp_int W2.dp, f i j, rfl, by
    cases e : f i j with
    | false =>
      rw [e, Bool.false_and] at q
      exact q _ H2 (W2.pop.pop.push (.bl _))
    | true =>
      rw [e, Bool.true_and] at q
      refine hc _ σ H2 W2 _ fun z H3 W3 => ⟨j, k, dp_int W3.pop.dp, dp_int W3.dp, g j k, rfl, ?_⟩
      cases e2 : g j k with
      | false =>
        rw [e2, Bool.false_and] at q
        exact q _ H3 (W3.pop.pop.pop.push (.bl _))
      | true =>
        rw [e2, Bool.true_and] at q
        exact hd _ σ H3 W3 _ fun z' H4 W4 => ⟨k, l, dp_int W4.pop.dp, dp_int W4.dp, q _ H4 (W4.pop.pop.pop.pop.push (.bl _))⟩⟩
/-- x.extend(a new list) -/
theorem s_extend {i : Nat} {l : Bool} {a : Addr} {ds es : List PyData} (h : EdL c ρ te es ρ1) (h0 : ∃ l ds, ρ[i]? = some (.mu l a (.lst ds))) (ha : ρ1[i]? = some (.mu l a (.lst ds))) (hz : ds.length + es.length ≤ 100000)
    (k : Sk c T (ρ1.set i (.mu l a (.lst (ds ++ es)))) nx) : Ss c T ρ (tDrop (tBM c.K "list" rExtend (tVar i) (tCons te tNil))) ⟨nx, rt, bk, ct⟩ := fun σ H W => by
  obtain ⟨l0, o0, h0⟩ := h0
  obtain ⟨e0, e2, e3⟩ := W.ok i _ h0
  obtain ⟨ys, e7, _⟩ := e3
  have ty : tyV c.K "list" (.ref a) H := .inl ⟨rfl, ys, sq_of e7⟩
  refine ⟨.ref a, e0, ty, h T σ H W _ fun p H1 hB hn hm W0 => ?_⟩
  have W1 := W0.unhide W.sub
  obtain ⟨zs, g1, g2⟩ := hm
  obtain ⟨_, _, xs, e4, e5⟩ := W1.ok i _ ha
  have hm : a ∈ hid c ρ1 := List.mem_append_right _ (mem_muts.mpr ⟨i, l, _, ha⟩)
  have e9 : Ex (hide (p :: hid c ρ1) H1) (hide (hid c ρ1) H1) := hide_mono fun b o n z => ⟨fun m => n (List.mem_cons_of_mem _ m), z⟩
  refine ⟨a, p, xs, zs, rfl, rfl, e4, g1, by rw [dpa_length e5, dpa_length g2]; exact Nat.le_trans hz (by decide), ?_⟩
  refine k _ _ (W1.updM ha ⟨xs ++ zs, upd_same, ?_⟩)
  have e6 : Ex (hide (hid c ρ1) H1) (hide (hid c ρ1) (upd H1 a (.lst (xs ++ zs)))) := upd_hid hm
  exact dpam e6 (dpa_append e5 (dpam e9 g2))
theorem dpa_erase {K : PySem.W.Frag} {H : Hp} : ∀ {ds : List PyData} {xs : List V} (n : Nat), DzAll K H xs ds → DzAll K H (xs.eraseIdx n) (ds.eraseIdx n)
  | [], _, _, h => by cases h; exact .nil
  | _ :: _, _, 0, h => by
    cases h with
    | cons a b => exact b
  | _ :: _, _, n + 1, h => by
    cases h with
    | cons a b => exact .cons a (dpa_erase n b)
theorem erase_map {α β : Type} (f : α → β) (l : List α) (n : Nat) : (l.eraseIdx n).map f = (l.map f).eraseIdx n := by
  rw [List.eraseIdx_eq_take_drop_succ, List.map_append, List.map_take, List.map_drop, ← List.eraseIdx_eq_take_drop_succ]
/-- x.pop(j) -/
theorem ed_popAt {i : Nat} {l : Bool} {a : Addr} {α : Type} {f : α → PyData} {xs : List α} {x : α} {j : Int} {n : Nat} (hj : Ed c ρ tb (.int j) ρ1) (h0 : ∃ l ds, ρ[i]? = some (.mu l a (.lst ds))) (ha : ρ1[i]? = some (.mu l a (.lst (xs.map f)))) (hn : j = (n : Int)) (hx : xs[n]? = some x) (hz : xs.length ≤ 100000) :
    Ed c ρ (tBM c.K "list" rPopAt (tVar i) (tCons tb tNil)) (f x) (ρ1.set i (.mu l a (.lst ((xs.eraseIdx n).map f)))) := fun T σ H W Q q => by
  obtain ⟨l0, o0, h0⟩ := h0
  obtain ⟨e0, e2, e3⟩ := W.ok i _ h0
  obtain ⟨ys, e7, _⟩ := e3
  have ty : tyV c.K "list" (.ref a) H := .inl ⟨rfl, ys, sq_of e7⟩
  refine ⟨.ref a, e0, ty, hj T σ H W _ fun v H1 W1 => ?_⟩
  obtain ⟨_, _, zs, e4, e5⟩ := W1.ok i _ ha
  have hx2 : (xs.map f)[n]? = some (f x) := by rw [List.getElem?_map, hx]; rfl
  obtain ⟨y, e6, e8⟩ := dpa_get e5 hx2
  have hlt := (List.getElem?_eq_some_iff.mp hx).1
  have hl := dpa_length e5
  rw [List.length_map] at hl
  subst hn
  refine ⟨a, zs, (n : Int), n, y, rfl, by rw [dp_int W1.dp], e4, by omega, by omega, ?_, e6, ?_⟩
  · unfold seqIndex?
    dsimp only
    rw [if_neg (show ¬ ((n : Int) < 0) by omega), if_pos (by simp; omega)]; rfl
  · have hm : a ∈ hid c ρ1 := List.mem_append_right _ (mem_muts.mpr ⟨i, l, _, ha⟩)
    have e9 : Ex (hide (hid c ρ1) H1) (hide (hid c ρ1) (upd H1 a (.lst (zs.eraseIdx n)))) := upd_hid hm
    have W2 := W1.pop.updM ha (o' := .lst ((xs.eraseIdx n).map f)) (u := .lst (zs.eraseIdx n)) ⟨_, upd_same, by rw [erase_map]; exact dpam e9 (dpa_erase n e5)⟩
    refine q y _ (W2.push ?_)
    refine dpm (hide_mono fun b o nb z => ⟨fun m => nb ?_, z⟩) (dpm e9 e8)
    rcases List.mem_append.mp m with m | m
    · exact List.mem_append_left _ m
    · obtain ⟨k, m', u, e⟩ := mem_muts.mp m
      rcases get_set e with ⟨_, _, e⟩ | ⟨_, e⟩
      · cases e; exact hm
      · exact List.mem_append_right _ (mem_muts.mpr ⟨k, m', u, e⟩)
end
section
variable {X : Cx}
def rRng1 : List V → Hp → VK → Prop := fun vs H Q => ∃ n, vs = [V.int n] ∧ ∀ p, H p = none → Q (.ref p) (upd H p (.rng 0 n))
def rRng2 : List V → Hp → VK → Prop := fun vs H Q => ∃ i j, vs = [V.int i, V.int j] ∧ ∀ p, H p = none → Q (.ref p) (upd H p (.rng i j))
theorem cr_rng1 : CallR X (.type "range") rRng1 := by
  intro pins s σ H vs us Q I r h
  obtain ⟨n, rfl, q⟩ := h
  obtain ⟨u, rfl, rn⟩ := vals1 r
  obtain ⟨t, rfl⟩ := rn
  exact call_range_1 ⟨.ref s.heap.objs.size, upd H s.heap.objs.size (.rng 0 n), I.laid (t' := s.toks + 1 + 1) (fun b o e => Heap.get?_push_of_some _ e) (Nat.le_refl _) ⟨s.toks, t, s.toks + 1, Heap.get?_push_size _ rfl⟩, rfl, q _ (I.hok.fresh (Nat.le_refl _))⟩
theorem cr_rng2 : CallR X (.type "range") rRng2 := cr_range2
def rListRng : List V → Hp → VK → Prop := fun xs H Q => ∃ a lo hi, xs = [.ref a] ∧ H a = some (.rng lo hi) ∧ -1000000 ≤ lo ∧ lo ≤ 1000000 ∧ -1000000 ≤ hi ∧ hi ≤ 1000000 ∧ ∀ p, H p = none → Q (.ref p) (upd H p (.lst ((rngX lo hi).map V.int)))
theorem cr_listRng (hc : X.calm = true) : CallR X (.type "list") rListRng := by
  intro pins s σ H xs us Q I r h
  obtain ⟨a, lo, hi, rfl, hr, b1, b2, b3, b4, q⟩ := h
  rw [Vals.ref1 r]
  obtain ⟨t, u, v, hget⟩ : ∃ t u v, s.heap.get? a = some { cls := .type "range", data := .fields #[.int lo t, .int hi u, .int 1 v] } := I.hok a _ hr
  have size_ : Builtin.Range.rangeSize lo hi 1 = ((hi - lo).toNat : Nat) := by
    unfold Builtin.Range.rangeSize
    rw [if_pos (by decide)]
    split <;> omega
  refine call_list_range (n := (hi - lo).toNat) (I.ok.hd hc) hget ?_ size_ (by omega) fun h' tk acc' c' keep hS hacc => ?_
  · unfold Builtin.Range.small
    have fit : ∀ x : Int, -2000000 ≤ x → x ≤ 2000000 → Builtin.Range.rangeFitsLong x = true := fun x h1 h2 => by
      unfold Builtin.Range.rangeFitsLong; simp; omega
    have z : Builtin.Range.rangeSize lo hi 1 ≤ 2000000 ∧ 0 ≤ Builtin.Range.rangeSize lo hi 1 := by rw [size_]; omega
    simp
    exact ⟨⟨⟨⟨fit _ (by omega) (by omega), fit _ (by omega) (by omega)⟩, fit _ (by decide) (by decide)⟩, fit _ (by omega) z.1⟩, .inr (fit _ (by omega) (by omega))⟩
  · obtain ⟨h1, h2⟩ := hacc
    have hv : ∀ (ns : List Int) (vs : List Value), vs.length = ns.length → (∀ (j : Nat) (v : Value), vs[j]? = some v → ∃ t k, ns[j]? = some k ∧ v = .int k t) → Vals (ns.map V.int) vs := by
      intro ns
      induction ns with
      | nil => intro vs hl _; cases vs with
        | nil => exact .nil
        | cons _ _ => simp at hl
      | cons n ns ih =>
        intro vs hl hj
        cases vs with
        | nil => simp at hl
        | cons w ws =>
          obtain ⟨t, k, e1, e2⟩ := hj 0 w rfl
          cases e1
          exact .cons ⟨t, e2⟩ (ih ws (by simpa using hl) fun j v e => by obtain ⟨t, k, a, b⟩ := hj (j + 1) v (by simpa using e); exact ⟨t, k, by simpa using a, b⟩)
    have ln : (rngX lo hi).length = (hi - lo).toNat := by unfold rngX; rw [List.length_map, List.length_range]
    have key : Vals ((rngX lo hi).map V.int) acc'.toList := hv _ _ (by rw [Array.length_toList, h1, ln]) fun j w e => by
      rw [Array.getElem?_toList] at e
      obtain ⟨t, et⟩ := h2 j w e
      have hj : j < (hi - lo).toNat := by rw [← h1]; exact (Array.getElem?_eq_some_iff.mp e).1
      refine ⟨t, lo + (j : Int), ?_, by rw [et, Int.mul_one]⟩
      unfold rngX
      rw [List.getElem?_map, List.getElem?_range hj]; rfl
    exact ⟨.ref _, upd H s.heap.objs.size (.lst ((rngX lo hi).map V.int)), I.laid (t' := tk) keep (Nat.le_refl _) (show ObjOk X.prog X.w _ h' _ (.lst _) from ⟨by rw [List.length_map, ln, sizeLine_eq]; omega, acc'.toList, c', key, hS⟩), rfl, q _ (I.hok.fresh (Nat.le_refl _))⟩
end
section
variable {c : Cz} {ρ ρ1 ρ2 : List Sl} {ta tb : TE}
/-- list(range(n)), list(range(lo, hi)) -/
theorem el_listRng1 {n : Int} (h : Ed c ρ ta (.int n) ρ1) (hn : -1000000 ≤ n ∧ n ≤ 1000000) : EdL c ρ (tCB rListRng (tCons (tCB rRng1 (tCons ta tNil)) tNil)) ((rngX 0 n).map .int) ρ1 := fun T σ H W Q q => h T σ H W _ fun v H1 W1 =>
  ⟨n, by rw [dp_int W1.dp], fun p hp => ⟨p, 0, n, rfl, upd_same, by omega, by omega, by omega, by omega, fun r hr => by
    obtain ⟨x1, x2, x3, x4⟩ := el_new (W1.pop.grow (Ex.new (o := .rng 0 n) hp)) (dpa_ints (rngX 0 n)) hr
    exact q r _ x1 x2 x3 x4⟩⟩
theorem el_listRng2 {lo n : Int} (h : Ed c ρ ta (.int lo) ρ1) (h2 : Ed c ρ1 tb (.int n) ρ2) (hl : -1000000 ≤ lo ∧ lo ≤ 1000000) (hn : -1000000 ≤ n ∧ n ≤ 1000000) : EdL c ρ (tCB rListRng (tCons (tCB rRng2 (tCons ta (tCons tb tNil))) tNil)) ((rngX lo n).map .int) ρ2 := fun T σ H W Q q => h T σ H W _ fun v H1 W1 => h2 _ σ H1 W1 _ fun w H2 W2 =>
  ⟨lo, n, by rw [dp_int W2.pop.dp, dp_int W2.dp], fun p hp => ⟨p, lo, n, rfl, upd_same, by omega, by omega, by omega, by omega, fun r hr => by
    obtain ⟨x1, x2, x3, x4⟩ := el_new (W2.pop.pop.grow (Ex.new (o := .rng lo n) hp)) (dpa_ints (rngX lo n)) hr
    exact q r _ x1 x2 x3 x4⟩⟩
end
section
variable {c : Cz} {ρ ρ1 ρ2 : List Sl} {ta tb te : TE}
/-- [e for x in xs if a test that draws] -/
theorem el_lcF {γ δ : Type} {wi : TI} {g : TG} {tt : TT} {vs : List Nat} {xs : List γ} {ea : γ → Itm} {eb : δ → PyData} {fb : γ → δ} {bp : γ → Bool → Prop} (h : Ei c ρ wi (xs.map ea) ρ1) (hsz : xs.length ≤ 100000) (hvs : ∀ j ∈ vs, ρ1[j]? = some .no)
    (turn : ∀ (S : List Addr) (B : Hp) (x : γ), x ∈ xs → ∃ ρa, Nz.wipeS ρa vs = ρ1 ∧ Eg (c.at S B) g (ea x) ρ1 ρa vs ∧ Ewt (c.at S B) ρa tt (bp x) ρa ∧ Ed (c.at S B) ρa te (eb (fb x)) ρa) :
    EwL c ρ (tLc wi g tt te vs) (fun l : List δ => l.map eb) (fun l => l.Sublist (xs.map fb)) ρ1 := fun T σ H W Q q => by
  refine el_lcN (c := c) (tt := tt) (te := te) (vs := vs) (its := fun _ : Unit => xs.map ea) (eiw_det (x := ()) (its := fun _ => xs.map ea) h) (fun _ i acc => ∃ l : List δ, acc = l.map eb ∧ l.Sublist ((xs.take i).map fb)) (fun _ _ => ⟨[], rfl, by rw [List.take_zero]; exact .slnil⟩) (fun _ _ => by rw [List.length_map]; exact hsz) hvs
    (fun S B _ i d acc _ hd ⟨l, hl, hf⟩ => ?_) T σ H W Q (fun l p H' ⟨_, _, l', e, hf⟩ h1 h2 h3 W1 => ?_)
  · rw [List.getElem?_map] at hd
    cases hx : xs[i]? with
    | none => rw [hx] at hd; cases hd
    | some x =>
      rw [hx] at hd
      have hd : ea x = d := Option.some.inj hd
      subst hd
      obtain ⟨ρa, hw, g1, g2, g3⟩ := turn S B x (List.mem_of_getElem? hx)
      have e : (xs.take (i + 1)).map fb = (xs.take i).map fb ++ [fb x] := by rw [List.take_add_one, hx, List.map_append]; rfl
      refine ⟨ρa, bp x, hw, g1, g2, fun _ => ew_as (f := eb) (ew_det (f := eb) (x := fb x) g3) fun y hy => ⟨eb (fb x), ⟨l ++ [fb x], by rw [hl, List.map_append]; rfl, ?_⟩, by rw [hy]⟩, fun _ => ⟨l, hl, ?_⟩⟩
      · rw [e]; exact hf.append (List.Sublist.refl _)
      · rw [e]; exact hf.trans (List.sublist_append_left _ _)
  · subst e
    rw [List.length_map, List.take_length] at hf
    exact q l' p H' hf h1 h2 h3 W1
/-! what may be None -/
theorem isN_eO {α : Type} {f : α → PyData} (hf : ∀ a, isNone (f a) = false) (x : Option α) : isNone (eO f x) = x.isNone := by
  cases x with
  | none => rfl
  | some a => exact hf a
theorem eO_get {α : Type} [Inhabited α] {f : α → PyData} {x : Option α} (h : x.isSome = true) : eO f x = f (x.getD default) := by
  cases x with
  | none => cases h
  | some a => rfl
theorem some_a {α : Type} {x : Option α} (h : (!x.isNone) = true) : x.isSome = true := by cases x <;> simp_all
theorem some_b {α : Type} {x : Option α} (h : x.isNone = false) : x.isSome = true := by cases x <;> simp_all
end

/-! ### an open pair as the target of a comprehension -/
theorem pg_tupB {X : Cx} {K : PySem.W.Frag} {es : List Expr} {k : Nat} {t : TGs} {n : Nat} {pos : Pos} (hK : X.K = K) (hc : X.calm = true) (h : PGs X es t)
    (hn : (assignEach es X.env).length = n := by rfl) (hst : (assignEach es X.env).findIdx? (·.1) = none := by rfl) : PG X (.Tuple es k pos) (gTup K n t) := by
  subst hK
  exact pg_tup hc h hn hst

/-! ### for at, x in enumerate(l), where l may change (but not in this for) -/
section
variable {c : Cz} {ρ ρ1 : List Sl} {T : Tm} {g : TG} {nx : L2.St → Hp → Prop} {rt : V → Hp → Prop} {bk ct : L2.St → Hp → Prop}
theorem s_forEM {α : Type} {f : α → PyData} {j : Nat} {l : Bool} {a : Addr} {tbd : TS} (xs : List α) (ha : ρ[j]? = some (.mu l a (.lst (xs.map f)))) (I : Nat → List Sl) (h0 : Le ρ (I 0)) (hI : ∀ i, (I i)[j]? = some (.mu l a (.lst (xs.map f))))
    (hs : ∀ (T' : Tm), (∀ p ∈ T, p ∈ T') → ∀ (i : Nat) (x : α × Nat), xs.zipIdx[i]? = some x → ∃ ρa ws, Eg c g (Itm.soft [PyData.int (x.2 : Int), f x.1]) (I i) ρa ws ∧ Ss c T' ρa tbd ⟨fun σ H => Wd c T' H σ (I (i + 1)), rt, nx, fun σ H => Wd c T' H σ (I (i + 1))⟩)
    (hd : Sk c T (I xs.zipIdx.length) nx) : Ss c T ρ (tFor (iEnum c.K (tCons (tVar j) tNil)) g tbd) ⟨nx, rt, bk, ct⟩ := fun σ H W => by
  obtain ⟨e0, _, ys, e1, e2⟩ := W.ok j _ ha
  refine ⟨.ref a, e0, a, ys, rfl, sq_of e1, fun i m σ' H' => i + m = xs.zipIdx.length ∧ Wd c T H' σ' (I i), ⟨xs.zipIdx.length, by omega, W.le h0⟩, fun i m σ' H' ⟨hm, W2⟩ => ?_⟩
  obtain ⟨_, _, zs, h1, h2⟩ := W2.ok j _ (hI i)
  have hl := dpa_length h2
  rw [List.length_map] at hl
  have hs2 : SqL c.K H' a zs := sq_of h1
  rw [List.length_zipIdx] at hm
  by_cases hi : i < xs.length
  · obtain ⟨x, hx, dx⟩ := dpa_get h2 (d := f xs[i]) (i := i) (by rw [List.getElem?_map, List.getElem?_eq_getElem hi]; rfl)
    refine .inr ⟨⟨zs, x, hs2, hx⟩, fun σ3 H3 => Wd c T H3 σ3 (I (i + 1)), fun σ3 H3 h3 => ⟨m - 1, by omega, by rw [List.length_zipIdx]; omega, h3⟩, fun y H3 hy => ?_⟩
    obtain ⟨p, z, rfl, hp, rfl, hy⟩ := hy
    have ez := (hy zs hs2).symm.trans hx
    rw [Option.some.inj ez]
    have W3 := W2.grow (Ex.new (o := .tup [.int (i : Nat), x]) hp)
    have e3 : Ex (hide (hid c (I i)) H') (hide (hid c (I i)) (upd H' p (.tup [.int (i : Nat), x]))) := hide_mono fun a o n h => ⟨n, Ex.new hp a o h⟩
    have hz : xs.zipIdx[i]? = some (xs[i], i) := by rw [List.getElem?_zipIdx, List.getElem?_eq_getElem hi]; simp
    obtain ⟨ρa, ws, g1, g2⟩ := hs T (fun p hp => hp) i _ hz
    exact g1 _ σ' _ _ ⟨p, [.int (i : Nat), x], rfl, .inl (.inl upd_same), rfl, (W3.push (dpm e3 dx)).push (.int _)⟩ _ fun σ4 H4 W4 _ => g2 σ4 H4 W4
  · have ei : i = xs.length := by omega
    subst ei
    refine .inl ⟨⟨zs, hs2, by omega⟩, hd σ' H' ?_⟩
    rw [List.length_zipIdx]; exact W2
end

/-! ### a walk over range(what is drawn); append of what is drawn -/
section
variable {c : Cz} {ρ ρ1 : List Sl} {T : Tm} {gt : TG} {te : TE} {nx : L2.St → Hp → Prop} {rt : V → Hp → Prop} {bk ct : L2.St → Hp → Prop} {α : Type}
theorem s_forNw {β γ : Type} {wi : TI} {tbd : TS} {Pa : γ → Prop} (xs : γ → List α) (ea : α → Itm) (h : Eiw c ρ wi (fun a => (xs a).map ea) Pa ρ1) (P : Nat → β → Prop) (I : Nat → β → List Sl) (b0 : β) (hP : P 0 b0) (h0 : Le ρ1 (I 0 b0))
    (hs : ∀ a, Pa a → ∀ (T' : Tm), (∀ p ∈ T, p ∈ T') → ∀ (i : Nat) (x : α) (b : β), (xs a)[i]? = some x → P i b → ∃ ρa ws, Eg c gt (ea x) (I i b) ρa ws ∧ Ss c T' ρa tbd ⟨fun σ H => ∃ b', P (i + 1) b' ∧ Wd c T' H σ (I (i + 1) b'), rt, nx, fun σ H => ∃ b', P (i + 1) b' ∧ Wd c T' H σ (I (i + 1) b')⟩)
    (hd : ∀ a, Pa a → ∀ b, P (xs a).length b → Sk c T (I (xs a).length b) nx) : Ss c T ρ (tFor wi gt tbd) ⟨nx, rt, bk, ct⟩ := fun σ H W => h T σ H W _ fun a J H1 T1 pa W1 hw => by
  have hs := hs a pa
  have hd := hd a pa
  dsimp only at hw
  generalize hxs : xs a = ys at hs hd hw
  rw [← List.length_map (f := ea)] at hd
  refine ⟨fun i m σ' H' => i + m = (ys.map ea).length ∧ ∃ b, P i b ∧ Wd c (T1 ++ T) H' σ' (I i b), ⟨(ys.map ea).length, by omega, b0, hP, W1.le h0⟩, fun i m σ' H' ⟨hm, b, pb, W2⟩ => ?_⟩
  have hwk := hw c T σ' H' (I i b) rfl W2
  by_cases hi : i < (ys.map ea).length
  · refine .inr ⟨(hwk.1 i hi).1, fun σ3 H3 => ∃ b', P (i + 1) b' ∧ Wd c (T1 ++ T) H3 σ3 (I (i + 1) b'), fun σ3 H3 h3 => ⟨m - 1, by omega, by omega, h3⟩, fun x H3 hy => ?_⟩
    obtain ⟨d, hd', W3⟩ := (hwk.1 i hi).2 x H3 hy
    rw [List.getElem?_map] at hd'
    cases hx : ys[i]? with
    | none => rw [hx] at hd'; cases hd'
    | some z =>
      rw [hx] at hd'
      have hd' : ea z = d := Option.some.inj hd'
      subst hd'
      obtain ⟨ρa, ws, g1, g2⟩ := hs (T1 ++ T) (fun p hp => List.mem_append_right _ hp) i z b hx pb
      exact g1 _ σ' H3 x W3 _ fun σ4 H4 W4 _ => g2 σ4 H4 W4
  · have ei : i = (ys.map ea).length := by omega
    subst ei
    exact .inl ⟨hwk.2 _ (Nat.le_refl _), hd b pb σ' H' (W2.tmps fun p hp => List.mem_append_right _ hp)⟩
theorem s_appendW {i : Nat} {l : Bool} {a : Addr} {ds : List PyData} {f : α → PyData} {P : α → Prop} (h : Ew c ρ te f P ρ1) (h0 : ∃ l ds, ρ[i]? = some (.mu l a (.lst ds))) (ha : ρ1[i]? = some (.mu l a (.lst ds))) (hz : ds.length < 100000) (k : ∀ x, P x → Sk c T (ρ1.set i (.mu l a (.lst (ds ++ [f x])))) nx) :
    Ss c T ρ (tDrop (tBM c.K "list" rAppend (tVar i) (tCons te tNil))) ⟨nx, rt, bk, ct⟩ := fun σ H W => by
  obtain ⟨l0, o0, h0⟩ := h0
  obtain ⟨e0, e2, e3⟩ := W.ok i _ h0
  obtain ⟨ys, e7, _⟩ := e3
  have ty : tyV c.K "list" (.ref a) H := .inl ⟨rfl, ys, sq_of e7⟩
  refine ⟨.ref a, e0, ty, h T σ H W _ fun x v H1 px W1 => ?_⟩
  obtain ⟨_, _, xs, e4, e5⟩ := W1.ok i _ ha
  refine ⟨a, xs, v, rfl, rfl, e4, by rw [dpa_length e5]; exact Nat.lt_of_lt_of_le hz (by decide), ?_⟩
  refine k x px _ _ (W1.pop.updM ha ⟨xs ++ [v], upd_same, ?_⟩)
  have hm : a ∈ hid c ρ1 := List.mem_append_right _ (mem_muts.mpr ⟨i, l, _, ha⟩)
  have e6 : Ex (hide (hid c ρ1) H1) (hide (hid c ρ1) (upd H1 a (.lst (xs ++ [v])))) := hide_mono fun b o nb e => ⟨nb, by rw [upd_ne (fun q => nb (by rw [q]; exact hm))]; exact e⟩
  exact dpam e6 (dpa_append e5 (.cons W1.dp .nil))
end

/-! an if whose branches go on together -/
section
variable {c : Cz} {ρ ρ1 : List Sl} {T : Tm} {t : TT} {ts tu : TS} {D : Ends} {b : Bool}
theorem s_ifJ (ρJ : List Sl) {nx : L2.St → Hp → Prop} {rt : VK} {bk ct : L2.St → Hp → Prop} (h : Et c ρ t b ρ1) (h1 : Sk c T ρJ nx → b = true → Ss c T ρ1 ts ⟨nx, rt, bk, ct⟩) (h2 : Sk c T ρJ nx → b = false → Ss c T ρ1 tu ⟨nx, rt, bk, ct⟩) (k : Sk c T ρJ nx) : Ss c T ρ (tIfS t ts tu) ⟨nx, rt, bk, ct⟩ :=
  s_if h (h1 k) (h2 k)
end
end Nz

/-! a and b, where both draw -/
namespace Nz
open PySem PySem.Spec PyProof.Rows L2 RZ
section
variable {c : Cz} {ρ ρ1 : List Sl} {ta tb : TE}
theorem ew_andV {A B : Bool → Prop} (h1 : Ew c ρ ta PyData.bool A ρ1) (h2 : A true → Ew c ρ1 tb PyData.bool B ρ1) : Ew c ρ (tAndV ta tb) PyData.bool (fun b => (A false ∧ b = false) ∨ (A true ∧ B b)) ρ1 := fun T σ H W Q q => h1 T σ H W _ fun a v H1 pa W1 => ⟨a, dp_bl W1.dp, by
  cases a with
  | true => exact h2 pa T σ H1 W1.pop Q fun b v2 H2 pb W2 => q b v2 H2 (.inr ⟨pa, pb⟩) W2
  | false => exact q false _ H1 (.inl ⟨pa, rfl⟩) (W1.pop.push (.bl _))⟩
end
end Nz

set_option exponentiation.threshold 10000
/-! what several laws need: places, binomials, sizes, quotients -/
namespace Nz
open PySem PySem.Spec PyProof.Rows L2 RZ
theorem rng_get {n i x : Nat} (h : (List.range n)[i]? = some x) : x = i ∧ i < n := by
  have hi := (List.getElem?_eq_some_iff.mp h).1
  rw [List.length_range] at hi
  rw [List.getElem?_range hi] at h
  cases h
  exact ⟨rfl, hi⟩
theorem all_id {α : Type} {l : List α} {f : α → Bool} (h : ∀ x ∈ l, f x = true) : (l.map f).all id = true := by
  rw [List.all_map, List.all_eq_true]
  exact h
theorem inb {n : Nat} {i : Int} (h : 0 ≤ i ∧ i < n) : InB n i := ⟨by omega, h.2⟩
theorem small_lt {a : Int} (h : -(2 ^ 64) < a ∧ a < 2 ^ 64) : a.natAbs < 2 ^ 8999 := Nat.lt_of_lt_of_le (show a.natAbs < 2 ^ 64 by omega) (Nat.pow_le_pow_right (by decide) (by decide))
theorem divI (a b : Int) : Rat.divInt a b = (a : Rat) / (b : Rat) := Rat.divInt_eq_div a b
theorem less_q {a b c d : Rat} (hb : 0 < b) (hd : 0 < d) : (a * d < c * b) ↔ (a / b < c / d) := by
  have e : c / d * b = (c * b) / d := by grind
  rw [Rat.div_lt_iff hb, e, Rat.lt_div_iff hd]
theorem less_i {a b c d : Int} (hb : 0 < b) (hd : 0 < d) : (a * d < c * b) ↔ (qv (a, b) < qv (c, d)) := by
  unfold qv
  rw [divI, divI]
  show _ ↔ (a : Rat) / (b : Rat) < (c : Rat) / (d : Rat)
  rw [← less_q (Rat.intCast_lt_intCast.mpr hb) (Rat.intCast_lt_intCast.mpr hd), ← Rat.intCast_mul, ← Rat.intCast_mul, Rat.intCast_lt_intCast]
theorem less_iff {a b c d : Int} (hb : 0 < b) (hd : 0 < d) : decide (a * d < c * b) = decide (qv (a, b) < qv (c, d)) := by
  have e := less_i (a := a) (c := c) hb hd
  by_cases h : a * d < c * b
  · rw [decide_eq_true h, decide_eq_true (e.mp h)]
  · rw [decide_eq_false h, decide_eq_false fun z => h (e.mpr z)]
theorem pow_succ' (r : Rat) (n : Nat) : r ^ (n + 1) = r ^ n * r := Rat.pow_succ ..
theorem Qk_pow {k : Nat} {r : Rat} (h : Qk k r) : ∀ n, Qk (k * n) (r ^ n)
  | 0 => by rw [Rat.pow_zero]; exact Qk_one _
  | n + 1 => by rw [pow_succ', Nat.mul_succ]; exact Qk_mul (Qk_pow h n) h
theorem Q_gcd (r : Rat) : Nat.gcd r.num.natAbs r.den = 1 := r.reduced
theorem den_pos (r : Rat) : 0 < (qp r).2 := by have := r.den_pos; show (0 : Int) < (r.den : Int); omega
theorem Qk_add {j k : Nat} {r q : Rat} (h1 : Qk j r) (h2 : Qk k q) : Qk (j + k + 1) (r + q) := by
  rw [← q_add]
  have := r.den_nz
  have := q.den_nz
  have a1 : (r.num * (q.den : Int)).natAbs ≤ 2 ^ (j + k) := by rw [Int.natAbs_mul, Nat.pow_add]; exact Nat.mul_le_mul h1.1 h2.2
  have a2 : (q.num * (r.den : Int)).natAbs ≤ 2 ^ (j + k) := by rw [Int.natAbs_mul, Nat.pow_add, Nat.mul_comm]; exact Nat.mul_le_mul h1.2 h2.1
  refine Qk_divInt (Int.mul_pos (by omega) (by omega)) ?_ ?_
  · refine Nat.le_trans (Int.natAbs_add_le _ _) ?_
    rw [Nat.pow_succ]; omega
  · rw [Int.natAbs_mul, Nat.pow_succ, Nat.pow_add]
    have : (r.den : Int).natAbs * (q.den : Int).natAbs ≤ 2 ^ j * 2 ^ k := Nat.mul_le_mul h1.2 h2.2
    omega
theorem Qk_neg {k : Nat} {r : Rat} (h : Qk k r) : Qk k (-r) := ⟨by rw [Rat.neg_num, Int.natAbs_neg]; exact h.1, by rw [Rat.neg_den]; exact h.2⟩
theorem Qk_sub {j k : Nat} {r q : Rat} (h1 : Qk j r) (h2 : Qk k q) : Qk (j + k + 1) (r - q) := by
  rw [Rat.sub_eq_add_neg]; exact Qk_add h1 (Qk_neg h2)
theorem en_get {α : Type} {l : List α} {i : Nat} {p : α × Nat} (h : l.zipIdx[i]? = some p) : p.2 = i ∧ l[i]? = some p.1 ∧ i < l.length := by
  rw [List.getElem?_zipIdx] at h
  cases e : l[i]? with
  | none => rw [e] at h; cases h
  | some a =>
    rw [e] at h
    cases h
    exact ⟨by simp, rfl, (List.getElem?_eq_some_iff.mp e).1⟩
theorem num_pos1 {r : Rat} (h : 0 < r) : 0 < r.num := Rat.intCast_pos.mp h
theorem num_pos2 {r : Rat} (h : 0 < r.num) : 0 < r := by
  rcases (show 0 < r ∨ 0 = r ∨ r < 0 by grind) with q | q | q
  · exact q
  · rw [← q] at h; exact absurd h (by decide)
  · have z : 0 < -r := by grind
    have := num_pos1 z
    rw [Rat.neg_num] at this
    omega
theorem pos_ne {r : Rat} (h : 0 < r) : r ≠ 0 := fun e => by rw [e] at h; exact absurd h (by decide +kernel)
theorem Qk_div {j k : Nat} {r q : Rat} (h1 : Qk j r) (h2 : Qk k q) (h : 0 < q) : Qk (j + k) (r / q) := by
  rw [← q_div]
  have hn := num_pos1 h
  have := r.den_nz
  refine Qk_divInt (Int.mul_pos (by omega) hn) ?_ ?_
  · rw [Int.natAbs_mul, Nat.pow_add]; exact Nat.mul_le_mul h1.1 h2.2
  · rw [Int.natAbs_mul, Nat.pow_add]; exact Nat.mul_le_mul h1.2 h2.1
theorem rngDn_get {a b x : Int} {i : Nat} (h : (rngDn a b)[i]? = some x) : x = a - (i : Int) ∧ (i : Int) < a - b := by
  unfold rngDn at h
  rw [List.getElem?_map] at h
  cases e : (List.range (a - b).toNat)[i]? with
  | none => rw [e] at h; cases h
  | some j =>
    rw [e] at h
    cases h
    have := rng_get e
    exact ⟨by rw [this.1], by omega⟩
theorem ixG_snoc {α : Type} [Inhabited α] (l : List α) (x : α) : ixG (l ++ [x]) (-(1 : Int)) = x := ixG_last l x
theorem qv_1 (k : Int) : qv (k, 1) = (k : Rat) := by unfold qv; rw [divI]; show (k : Rat) / ((1 : Int) : Rat) = _; grind
theorem ixG_mem {α : Type} [Inhabited α] {l : List α} {i : Int} (h : 0 ≤ i ∧ i < l.length) : ixG l i ∈ l := by
  have e : l[i.toNat]? = some (l[i.toNat]'(by omega)) := List.getElem?_eq_getElem (by omega)
  have := ixG_nat e
  rw [show ((i.toNat : Nat) : Int) = i by omega] at this
  rw [this]; exact List.getElem_mem _
theorem ixG_neg {α : Type} [Inhabited α] {l : List α} (h : 0 < l.length) : ixG l (-1) = ixG l ((l.length : Int) - 1) := by
  have e : l[l.length - 1]? = some (l[l.length - 1]'(by omega)) := List.getElem?_eq_getElem (by omega)
  have h1 := ixG_nat e
  rw [show ((l.length - 1 : Nat) : Int) = (l.length : Int) - 1 by omega] at h1
  rw [h1]
  unfold ixG atI ixN
  rw [if_neg (by decide), if_pos (by omega)]
  show (l[((-1 : Int) + l.length).toNat]?).getD _ = _
  rw [show ((-1 : Int) + (l.length : Int)).toNat = l.length - 1 by omega, e]; rfl
theorem Bd_self {k : Nat} {r : Rat} (h : Qk k r) : Bd (2 ^ k) r.den r := ⟨r.den_pos, r.num, h.1, (Rat.num_divInt_den r).symm⟩
theorem Bd_neg {M D : Nat} {r : Rat} (h : Bd M D r) : Bd M D (-r) := by
  obtain ⟨h0, n, hn, e⟩ := h
  exact ⟨h0, -n, by rw [Int.natAbs_neg]; exact hn, by rw [e, Rat.neg_divInt]⟩
theorem Bd_one {D : Nat} (h : 0 < D) : Bd D D 1 := by
  refine ⟨h, (D : Int), Nat.le_of_eq (Int.natAbs_natCast D), ?_⟩
  have z : ((D : Int) : Rat) ≠ 0 := by exact_mod_cast (by omega : D ≠ 0)
  rw [Rat.divInt_eq_div]
  grind
theorem Bd_pow {M D : Nat} {r : Rat} (h : Bd M D r) : ∀ n : Nat, Bd (M ^ n) (D ^ n) (r ^ n)
  | 0 => by rw [Rat.pow_zero, Nat.pow_zero, Nat.pow_zero]; exact Bd_one (by decide)
  | n + 1 => by rw [pow_succ', Nat.pow_succ, Nat.pow_succ]; exact Bd_mul (Bd_pow h n) h
theorem Bd_int {M : Nat} {x : Int} (h : x.natAbs ≤ M) : Bd M 1 (x : Rat) := ⟨by decide, x, h, by rw [Rat.divInt_eq_div]; grind⟩
theorem int_qk {k : Nat} {x : Int} (h : x.natAbs ≤ 2 ^ k) : Qk k (x : Rat) := ⟨by simpa using h, by simpa using Nat.one_le_two_pow⟩
theorem co_cop (r : Rat) : Nat.gcd ((r.den : Int) - r.num).natAbs r.den = 1 := by
  have h := r.reduced
  have e : Int.gcd ((r.den : Int) - r.num) (r.den : Int) = Int.gcd r.num (r.den : Int) := by simp
  exact e.trans h
theorem co_rat (r : Rat) : (⟨(r.den : Int) - r.num, r.den, r.den_nz, co_cop r⟩ : Rat) = 1 - r := by
  rw [Rat.mk_eq_divInt, Rat.divInt_eq_div]
  have z : (((r.den : Int)) : Rat) ≠ 0 := by exact_mod_cast r.den_nz
  have q : r = ((r.num : Int) : Rat) / (((r.den : Int)) : Rat) := by rw [← Rat.divInt_eq_div, Rat.num_divInt_den]
  have c : ((((r.den : Int) - r.num : Int)) : Rat) = (((r.den : Int)) : Rat) - ((r.num : Int) : Rat) := by push_cast; rfl
  rw [c]
  generalize (((r.den : Int)) : Rat) = D at *
  generalize ((r.num : Int) : Rat) = N at *
  rw [q]; clear q c
  grind
theorem co_pair (r : Rat) : [PyData.int ((r.den : Int) - r.num), PyData.int r.den] = [PyData.int (1 - r).num, PyData.int (1 - r).den] := by
  rw [← co_rat]
theorem inv_pair {r : Rat} (h : 0 < r) : [PyData.int r.den, PyData.int r.num] = [PyData.int (r⁻¹).num, PyData.int (r⁻¹).den] := by
  have hn := num_pos1 h
  have e : r⁻¹ = (⟨(r.den : Int), r.num.natAbs, by omega, by rw [Int.natAbs_natCast, Nat.coprime_comm]; exact r.reduced⟩ : Rat) := by
    rw [Rat.mk_eq_divInt, Rat.divInt_eq_div]
    have q : r = ((r.num : Int) : Rat) / (((r.den : Int)) : Rat) := by rw [← Rat.divInt_eq_div, Rat.num_divInt_den]
    have z : (((r.den : Int)) : Rat) ≠ 0 := by exact_mod_cast r.den_nz
    have y : ((r.num : Int) : Rat) ≠ 0 := by exact_mod_cast (by omega : r.num ≠ 0)
    rw [show ((r.num.natAbs : Nat) : Int) = r.num by omega]
    generalize (((r.den : Int)) : Rat) = D at *
    generalize ((r.num : Int) : Rat) = N at *
    rw [q]; clear q
    grind
  rw [e]
  show _ = [PyData.int (r.den : Int), PyData.int ((r.num.natAbs : Nat) : Int)]
  rw [show ((r.num.natAbs : Nat) : Int) = r.num by omega]
theorem mul_mono {a x y : Rat} (ha : 0 ≤ a) (h : x ≤ y) : a * x ≤ a * y := Rat.mul_le_mul_of_nonneg_left h ha
theorem comb_mono {a b x y x' y' : Rat} (ha : 0 ≤ a) (hb : 0 ≤ b) (h : x ≤ x') (h' : y ≤ y') : a * x + b * y ≤ a * x' + b * y' := by
  have h1 := mul_mono ha h
  have h2 := mul_mono hb h'
  grind
def sumTo (f : Nat → Rat) : Nat → Rat
  | 0 => 0
  | n + 1 => sumTo f n + f n
theorem sumTo_eq {f g : Nat → Rat} : ∀ {n : Nat}, (∀ i, i < n → f i = g i) → sumTo f n = sumTo g n
  | 0, _ => rfl
  | n + 1, h => by rw [sumTo, sumTo, sumTo_eq fun i hi => h i (by omega), h n (by omega)]
theorem sumTo_mul {f : Nat → Rat} {x : Rat} : ∀ n : Nat, sumTo (fun i => x * f i) n = x * sumTo f n
  | 0 => by rw [sumTo, sumTo, Rat.mul_zero]
  | n + 1 => by rw [sumTo, sumTo, sumTo_mul n]; grind
theorem sumTo_add {f g : Nat → Rat} : ∀ n : Nat, sumTo (fun i => f i + g i) n = sumTo f n + sumTo g n
  | 0 => by rw [sumTo, sumTo, sumTo]; grind
  | n + 1 => by rw [sumTo, sumTo, sumTo, sumTo_add n]; grind
theorem mul_powQ (x y : Rat) : ∀ n : Nat, (x * y) ^ n = x ^ n * y ^ n
  | 0 => by rw [Rat.pow_zero, Rat.pow_zero, Rat.pow_zero, Rat.mul_one]
  | n + 1 => by rw [pow_succ', pow_succ', pow_succ', mul_powQ x y n]; grind
theorem pow_addQ (x : Rat) (m : Nat) : ∀ n : Nat, x ^ (m + n) = x ^ m * x ^ n
  | 0 => by rw [Rat.pow_zero, Rat.mul_one]; rfl
  | n + 1 => by rw [show m + (n + 1) = (m + n) + 1 by omega, pow_succ', pow_succ', pow_addQ x m n, Rat.mul_assoc]
theorem list_rng {α : Type} [Inhabited α] (l : List α) : (List.range l.length).map (fun (j : Nat) => ixG l (j : Int)) = l := by
  apply List.ext_getElem?
  intro i
  rw [List.getElem?_map]
  by_cases h : i < l.length
  · rw [List.getElem?_range h, List.getElem?_eq_getElem h]
    exact congrArg some (ixG_nat (List.getElem?_eq_getElem h))
  · rw [List.getElem?_eq_none (by simpa using h), List.getElem?_eq_none (by simpa using h)]; rfl
theorem ixG_rng {β : Type} [Inhabited β] {f : Nat → β} {n j : Nat} (h : j < n) : ixG ((List.range n).map f) (j : Int) = f j :=
  ixG_nat (by rw [List.getElem?_map, List.getElem?_range h]; rfl)
theorem rev_rng {β : Type} (f : Nat → β) (n : Nat) : ((List.range n).map f).reverse = (List.range n).map fun s => f (n - 1 - s) := by
  apply List.ext_getElem?
  intro i
  by_cases h : i < n
  · rw [List.getElem?_reverse (by simpa using h), List.getElem?_map, List.getElem?_map, List.length_map, List.length_range, List.getElem?_range h, List.getElem?_range (by omega)]
    rfl
  · rw [List.getElem?_eq_none (by simpa using h), List.getElem?_eq_none (by simpa using h)]
theorem div_posQ {x y : Rat} (h : 0 < x) (h2 : 0 < y) : 0 < x / y := by rw [Rat.div_def]; exact Rat.mul_pos h (Rat.inv_pos.mpr h2)
theorem inv_powQ {r : Rat} (h : r ≠ 0) : ∀ n : Nat, (r⁻¹) ^ n = (r ^ n)⁻¹
  | 0 => by rw [Rat.pow_zero, Rat.pow_zero]; decide +kernel
  | n + 1 => by rw [pow_succ', pow_succ', inv_powQ h n, Rat.inv_mul_rev, Rat.mul_comm]
theorem nlt {a b : Rat} (h : b ≤ a) : decide (a < b) = false := decide_eq_false (Rat.not_lt.mpr h)
theorem asc_len : ∀ {l : List Int} {a b : Int}, l.Pairwise (· < ·) → (∀ x ∈ l, a ≤ x ∧ x ≤ b) → a ≤ b + 1 → (l.length : Int) ≤ b + 1 - a
  | [], a, b, _, _, h => by simp; omega
  | x :: l, a, b, h, hx, _ => by
    rw [List.pairwise_cons] at h
    have h1 := hx x (List.mem_cons_self ..)
    have := asc_len (l := l) (a := x + 1) (b := b) h.2 (fun y hy => ⟨by have := h.1 y hy; omega, (hx y (List.mem_cons_of_mem _ hy)).2⟩) (by omega)
    rw [List.length_cons]; push_cast; omega
theorem putP_nodup {α : Type} {l : List (Int × α)} {k : Int} {x : α} (h : (l.map Prod.fst).Nodup) : ((putP l k x).map Prod.fst).Nodup := by
  unfold putP
  split
  · rw [List.map_map]
    have e : (Prod.fst ∘ fun p : Int × α => if p.1 = k then (p.1, x) else p) = Prod.fst := by funext p; show (if p.1 = k then (p.1, x) else p).1 = p.1; split <;> rfl
    rw [e]; exact h
  · rename_i q
    rw [List.map_append]
    refine List.nodup_append.mpr ⟨h, by simp, fun a ha b hb => ?_⟩
    rw [List.map_cons, List.map_nil, List.mem_singleton] at hb
    subst hb
    intro e
    subst e
    obtain ⟨p, hp, e⟩ := List.mem_map.mp ha
    have := List.any_eq_false.mp q p hp
    exact this (decide_eq_true e)
theorem Fa.get {α β : Type} {R : α → β → Prop} {l : List α} {m : List β} (h : Fa R l m) : ∀ {i : Nat} {b : β}, m[i]? = some b → ∃ a, l[i]? = some a ∧ R a b := by
  induction h with
  | nil => intro i b hb; simp at hb
  | cons r _ ih =>
    intro i b hb
    cases i with
    | zero => cases hb; exact ⟨_, rfl, r⟩
    | succ i => exact ih (by simpa using hb)
theorem asc_ix : ∀ {l : List Int} {i j : Nat} {a b : Int}, l.Pairwise (· < ·) → l[i]? = some a → l[j]? = some b → i < j → a < b
  | [], i, j, a, b, _, h, _, _ => by simp at h
  | x :: l, 0, j + 1, a, b, h, h1, h2, _ => by
    rw [List.pairwise_cons] at h
    have e : x = a := by simpa using h1
    rw [← e]
    exact h.1 b (List.mem_of_getElem? (by simpa using h2))
  | x :: l, i + 1, j + 1, a, b, h, h1, h2, hij => by
    rw [List.pairwise_cons] at h
    exact asc_ix h.2 (by simpa using h1) (by simpa using h2) (by omega)
theorem ixG_some {α : Type} [Inhabited α] {l : List α} {i : Int} (h : 0 ≤ i ∧ i < l.length) : l[i.toNat]? = some (ixG l i) := by
  have e : l[i.toNat]? = some (l[i.toNat]'(by omega)) := List.getElem?_eq_getElem (by omega)
  have := ixG_nat e
  rw [show ((i.toNat : Nat) : Int) = i by omega] at this
  rw [e, this]
theorem div_lt {a b c : Int} (h : a < b) (hc : 0 < c) : Rat.divInt a c < Rat.divInt b c := (less_i (a := a) (b := c) (c := b) (d := c) hc hc).mp (Int.mul_lt_mul_of_pos_right h hc)
theorem one_ne {x : Int} {n : Int} (h : ∃ a b : Int, a = 1 ∧ (0 ≤ b ∧ b < n) ∧ x = 1 + b) : x ≠ 0 := by
  obtain ⟨a, b, _, hb, e⟩ := h; omega
theorem one_lt {x : Int} {n : Int} (h : ∃ a b : Int, a = 1 ∧ (0 ≤ b ∧ b < n) ∧ x = 1 + b) (hn : n < 1000) : x.natAbs < 2 ^ 8999 := by
  obtain ⟨a, b, _, hb, e⟩ := h; exact small_lt (by omega)
theorem two_pow (x : Nat) : 2 ^ x + 2 ^ x = 2 ^ (x + 1) := by rw [Nat.pow_succ]; omega
theorem cut_mid {α : Type} (l : List α) {a b : Int} (h : 0 ≤ a ∧ a ≤ b ∧ b ≤ l.length) : cutX l (some a) (some b) = (l.drop a.toNat).take (b.toNat - a.toNat) := by
  have h1 : ∀ d, HT.sIx l.length d (some a) = a.toNat := fun d => by
    show (if a < 0 then _ else min a.toNat l.length) = _
    rw [if_neg (by omega)]; omega
  have h2 : ∀ d, HT.sIx l.length d (some b) = b.toNat := fun d => by
    show (if b < 0 then _ else min b.toNat l.length) = _
    rw [if_neg (by omega)]; omega
  unfold cutX
  rw [h1, h2]
theorem mem3 {α : Type} {a b c x : α} (h : x ∈ [a, b, c]) : x = a ∨ x = b ∨ x = c := by simpa using h
theorem mem2 {α : Type} {a b x : α} (h : x ∈ [a, b]) : x = a ∨ x = b := by simpa using h
def bin : Nat → Nat → Nat
  | _, 0 => 1
  | 0, _ + 1 => 0
  | n + 1, k + 1 => bin n k + bin n (k + 1)
theorem bin_zero (n : Nat) : bin n 0 = 1 := by cases n <;> rfl
theorem bin_gt : ∀ {n k : Nat}, n < k → bin n k = 0
  | 0, _ + 1, _ => rfl
  | n + 1, k + 1, h => by
    show bin n k + bin n (k + 1) = 0
    rw [bin_gt (by omega), bin_gt (by omega)]
theorem bin_self : ∀ n, bin n n = 1
  | 0 => rfl
  | n + 1 => by
    show bin n n + bin n (n + 1) = 1
    rw [bin_self, bin_gt (by omega)]
theorem bin_pos : ∀ {n k : Nat}, k ≤ n → 0 < bin n k
  | _, 0, _ => by rw [bin_zero]; decide
  | n + 1, k + 1, h => by
    show 0 < bin n k + bin n (k + 1)
    have := bin_pos (n := n) (k := k) (by omega)
    omega
theorem bin_le : ∀ n k, bin n k ≤ 2 ^ n
  | 0, 0 => by decide
  | 0, _ + 1 => by show 0 ≤ 1; decide
  | n + 1, 0 => by rw [bin_zero]; exact Nat.one_le_two_pow
  | n + 1, k + 1 => by
    show bin n k + bin n (k + 1) ≤ 2 ^ (n + 1)
    have := bin_le n k
    have := bin_le n (k + 1)
    rw [Nat.pow_succ]; omega
theorem bin_step : ∀ n k, bin n (k + 1) * (k + 1) = bin n k * (n - k)
  | 0, k => by
    show 0 * (k + 1) = _
    rw [Nat.zero_sub, Nat.mul_zero, Nat.zero_mul]
  | n + 1, 0 => by
    have h : bin n 1 = n := by simpa [bin_zero] using bin_step n 0
    show (bin n 0 + bin n 1) * 1 = bin (n + 1) 0 * (n + 1)
    rw [bin_zero, bin_zero, h]
    omega
  | n + 1, k + 1 => by
    have h1 := bin_step n k
    have h2 := bin_step n (k + 1)
    show (bin n (k + 1) + bin n (k + 2)) * (k + 2) = (bin n k + bin n (k + 1)) * (n + 1 - (k + 1))
    by_cases hk : k ≤ n
    · by_cases hk2 : k = n
      · subst hk2
        rw [bin_gt (show k < k + 1 by omega), bin_gt (show k < k + 2 by omega)]
        simp
      · obtain ⟨m, rfl⟩ : ∃ m, n = k + 1 + m := ⟨n - (k + 1), by omega⟩
        rw [show k + 1 + m - k = m + 1 by omega] at h1
        rw [show k + 1 + m - (k + 1) = m by omega] at h2
        rw [show k + 1 + m + 1 - (k + 1) = m + 1 by omega]
        have e1 : (bin (k + 1 + m) (k + 1) + bin (k + 1 + m) (k + 2)) * (k + 2) = bin (k + 1 + m) (k + 1) * (k + 1) + bin (k + 1 + m) (k + 1) + bin (k + 1 + m) (k + 1 + 1) * (k + 1 + 1) := by
          rw [Nat.add_mul, Nat.mul_add _ (k + 1) 1, Nat.mul_one]
        rw [e1, h1, h2, Nat.add_mul]
        rw [Nat.mul_add (bin (k + 1 + m) (k + 1)) m 1, Nat.mul_one]
        omega
    · rw [bin_gt (show n < k + 1 by omega), bin_gt (show n < k + 2 by omega), bin_gt (show n < k by omega)]
      simp
theorem bin_next {n k : Nat} : bin n k * (n - k) / (k + 1) = bin n (k + 1) := by
  rw [← bin_step]; exact Nat.mul_div_cancel _ (by omega)
def chI (n k : Int) : Int := if k < 0 ∨ n < k then 0 else (bin n.toNat k.toNat : Int)
theorem chI_nat {n k : Nat} : chI n k = (bin n k : Int) := by
  unfold chI
  by_cases h : n < k
  · rw [if_pos (.inr (by omega)), bin_gt h]; rfl
  · rw [if_neg (by omega)]; rfl
theorem bin_stepI {n : Int} {k : Nat} (h : (k : Int) < n) : ((bin n.toNat k : Nat) : Int) * (n - (k : Int)) / ((k : Int) + 1) = ((bin n.toNat (k + 1) : Nat) : Int) := by
  rw [← bin_next, Int.natCast_ediv, Int.natCast_mul]
  have : ((n.toNat - k : Nat) : Int) = n - k := by omega
  rw [this]; rfl
theorem bin_stepJ {n : Int} {k : Nat} (h : 0 ≤ n) : ((bin n.toNat k : Nat) : Int) * (n - (k : Int)) / ((k : Int) + 1) = ((bin n.toNat (k + 1) : Nat) : Int) := by
  by_cases hk : (k : Int) < n
  · exact bin_stepI hk
  · rw [bin_gt (show n.toNat < k + 1 by omega)]
    by_cases e : (k : Int) = n
    · rw [e, Int.sub_self, Int.mul_zero, Int.zero_ediv]; rfl
    · rw [bin_gt (show n.toNat < k by omega)]; simp
theorem chI_nonneg (n k : Int) : 0 ≤ chI n k := by unfold chI; split <;> omega
theorem chI_le {n k : Int} : (chI n k).natAbs ≤ 2 ^ n.toNat := by
  unfold chI
  split
  · simp
  · exact bin_le _ _
theorem chI_pos {n k : Int} (h : 0 ≤ k ∧ k ≤ n) : 0 < chI n k := by
  unfold chI
  rw [if_neg (by omega)]
  have := bin_pos (n := n.toNat) (k := k.toNat) (by omega)
  omega
theorem chI_Qk {m n k j : Int} {b : Nat} (h : 0 ≤ k ∧ k ≤ n) (hn : n ≤ b) (hm : m ≤ b) : Qk b (Rat.divInt (chI m j) (chI n k)) :=
  Qk_divInt (chI_pos h) (Nat.le_trans chI_le (Nat.pow_le_pow_right (by decide) (by omega))) (Nat.le_trans chI_le (Nat.pow_le_pow_right (by decide) (by omega)))
theorem lawch_ret {many few : Int} (h : 0 ≤ many) : PyData.int (if (decide ((0 : Int) ≤ few) && decide (few ≤ many)) = true then ((bin many.toNat (List.range few.toNat).length : Nat) : Int) else 0) = PyData.int (chI many few) := by
  rw [List.length_range]
  unfold chI
  by_cases h1 : few < 0 ∨ many < few
  · rw [if_pos h1, if_neg (by simp; omega)]
  · rw [if_neg h1, if_pos (by simp; omega)]
theorem cut_last {α : Type} (l : List α) : cutX l none (some (-(1 : Int))) = l.take (l.length - 1) := by
  unfold cutX
  have e0 : HT.sIx l.length 0 none = 0 := rfl
  have e1 : HT.sIx l.length l.length (some (-(1 : Int))) = l.length - 1 := by
    unfold HT.sIx
    simp
    omega
  rw [e0, e1, List.drop_zero, Nat.sub_zero]
theorem cut_len {l : List Int} : (cutX l none (some (-(1 : Int)))).length ≤ l.length := by rw [cut_last, List.length_take]; omega
theorem cut_back {α : Type} (l : List α) (k : Int) (hk : 0 ≤ k ∧ k ≤ l.length) : cutX l (some k) none = l.drop k.toNat ∧ cutX l none (some k) = l.take k.toNat := by
  have h0 : HT.sIx l.length 0 none = 0 := rfl
  have h1 : HT.sIx l.length l.length none = l.length := rfl
  have h2 : ∀ d, HT.sIx l.length d (some k) = k.toNat := fun d => by
    show (if k < 0 then _ else min k.toNat l.length) = _
    rw [if_neg (by omega)]; omega
  unfold cutX
  rw [h0, h1, h2, h2]
  refine ⟨?_, by simp⟩
  rw [List.take_of_length_le (by rw [List.length_drop]; omega)]
theorem ch_out {n k : Int} (h : (decide (k < 0) || decide (n < k)) = true) : PyData.int 0 = PyData.int (chI n k) := by
  simp only [Bool.or_eq_true, decide_eq_true_eq] at h
  unfold chI; rw [if_pos h]
theorem ch_in {n k : Int} (h : (decide (k < 0) || decide (n < k)) = false) : PyData.int ((bin n.toNat (List.range k.toNat).length : Nat) : Int) = PyData.int (chI n k) := by
  simp only [Bool.or_eq_false_iff, decide_eq_false_iff_not] at h
  unfold chI; rw [if_neg (by omega), List.length_range]
end Nz

/-! x < y, x > y of alike data -/
namespace Nz
open PySem PySem.Spec PyProof.Rows L2 RZ PySem.W
def rCmpD (K : PySem.W.Frag) (f : PyData → PyData → Bool) : R2 := fun x y H Q => ∃ d e, Dp K H x d ∧ Dp K H y e ∧ alike d e = true ∧ d ≠ .none ∧ d.depth ≤ 50 ∧ Q (.bl (f d e)) H
theorem op_ltD {X : Cx} (hu : X.A.units + 64 < cLine) : OpR X (compareOp .Lt) (rCmpD X.K dataLt) := by
  intro pins s σ H x y v u Q I rx ry h
  obtain ⟨d, e, hd, he, al, hn, hz, q⟩ := h
  obtain ⟨as, r1⟩ := Dp.reads I d x v hd rx
  obtain ⟨bs, r2⟩ := Dp.reads I e y u he ry
  exact lt_data r1 r2 al hn (by omega) ⟨.bl _, H, I, rfl, q⟩
theorem op_gtD {X : Cx} (hu : X.A.units + 64 < cLine) : OpR X (compareOp .Gt) (rCmpD X.K fun d e => dataLt e d) := by
  intro pins s σ H x y v u Q I rx ry h
  obtain ⟨d, e, hd, he, al, hn, hz, q⟩ := h
  obtain ⟨as, r1⟩ := Dp.reads I d x v hd rx
  obtain ⟨bs, r2⟩ := Dp.reads I e y u he ry
  exact gt_data r1 r2 al hn (by omega) ⟨.bl _, H, I, rfl, q⟩
section
variable {c : Cz} {ρ ρ1 ρ2 : List Sl} {ta tb : TE} {d1 d2 : PyData}
theorem ed_cmpD {f : PyData → PyData → Bool} (ha : Ed c ρ ta d1 ρ1) (hb : Ed c ρ1 tb d2 ρ2) (al : alike d1 d2 = true) (hn : d1 ≠ .none) (hz : d1.depth ≤ 50) : Ed c ρ (tOp (rCmpD c.K f) ta tb) (.bool (f d1 d2)) ρ2 :=
  ed_op ha hb fun T σ H x y W hx hy Q q => ⟨d1, d2, dz_dp _ _ (dpm (hide_ex _ _) hx), dz_dp _ _ (dpm (hide_ex _ _) hy), al, hn, hz, q _ H (W.push (.bl _))⟩
end
/-! x in l, x in t: data -/
def rInT (K : PySem.W.Frag) (neg : Bool) : R2 := fun x y H Q => ∃ d ds, Dp K H x d ∧ Dp K H y (.tuple ds) ∧ SeqAt.shaped d = true ∧ SeqAt.shaped (.tuple ds) = true ∧ Q (.bl (if neg = true then !ds.any fun z => PyData.eqv z d else ds.any fun z => PyData.eqv z d)) H
def rInL (K : PySem.W.Frag) (neg : Bool) : R2 := fun x y H Q => ∃ d ds, Dp K H x d ∧ Dp K H y (.list ds) ∧ SeqAt.shaped d = true ∧ SeqAt.shaped (.list ds) = true ∧ Q (.bl (if neg = true then !ds.any fun z => PyData.eqv z d else ds.any fun z => PyData.eqv z d)) H
section
variable {X : Cx}
theorem op_inTD (hu : X.A.units + 65 < cLine) : OpR X (compareOp .In) (rInT X.K false) := by
  intro pins s σ H x y v u Q I rx ry h
  obtain ⟨d, ds, hd, he, sd, se, q⟩ := h
  obtain ⟨as, r1⟩ := Dp.reads I d x v hd rx
  obtain ⟨bs, r2⟩ := Dp.reads I (.tuple ds) y u he ry
  exact SeqAt.in_tuple_reads r2 r1 (SeqAt.canLay_of_shaped se) (SeqAt.canLay_of_shaped sd) (room_in_shaped sd hu) ⟨.bl _, H, I, rfl, q⟩
theorem op_ninTD (hu : X.A.units + 65 < cLine) : OpR X (compareOp .NotIn) (rInT X.K true) := by
  intro pins s σ H x y v u Q I rx ry h
  obtain ⟨d, ds, hd, he, sd, se, q⟩ := h
  obtain ⟨as, r1⟩ := Dp.reads I d x v hd rx
  obtain ⟨bs, r2⟩ := Dp.reads I (.tuple ds) y u he ry
  exact SeqAt.notIn_tuple_reads r2 r1 (SeqAt.canLay_of_shaped se) (SeqAt.canLay_of_shaped sd) (room_in_shaped sd hu) ⟨.bl _, H, I, rfl, q⟩
theorem op_inLD (hu : X.A.units + 65 < cLine) : OpR X (compareOp .In) (rInL X.K false) := by
  intro pins s σ H x y v u Q I rx ry h
  obtain ⟨d, ds, hd, he, sd, se, q⟩ := h
  obtain ⟨as, r1⟩ := Dp.reads I d x v hd rx
  obtain ⟨bs, r2⟩ := Dp.reads I (.list ds) y u he ry
  exact SeqAt.in_list_reads r2 r1 (SeqAt.canLay_of_shaped se) (SeqAt.canLay_of_shaped sd) (room_in_shaped sd hu) ⟨.bl _, H, I, rfl, q⟩
theorem op_ninLD (hu : X.A.units + 65 < cLine) : OpR X (compareOp .NotIn) (rInL X.K true) := by
  intro pins s σ H x y v u Q I rx ry h
  obtain ⟨d, ds, hd, he, sd, se, q⟩ := h
  obtain ⟨as, r1⟩ := Dp.reads I d x v hd rx
  obtain ⟨bs, r2⟩ := Dp.reads I (.list ds) y u he ry
  exact SeqAt.notIn_list_reads r2 r1 (SeqAt.canLay_of_shaped se) (SeqAt.canLay_of_shaped sd) (room_in_shaped sd hu) ⟨.bl _, H, I, rfl, q⟩
end
section
variable {c : Cz} {ρ ρ1 ρ2 : List Sl} {ta tb : TE} {d1 : PyData} {ds : List PyData} {neg : Bool}
theorem ed_inTD (ha : Ed c ρ ta d1 ρ1) (hb : Ed c ρ1 tb (.tuple ds) ρ2) (s1 : SeqAt.shaped d1 = true) (s2 : SeqAt.shaped (.tuple ds) = true) : Ed c ρ (tOp (rInT c.K neg) ta tb) (.bool (if neg = true then !ds.any fun z => PyData.eqv z d1 else ds.any fun z => PyData.eqv z d1)) ρ2 :=
  ed_op ha hb fun T σ H x y W hx hy Q q => ⟨d1, ds, dz_dp _ _ (dpm (hide_ex _ _) hx), dz_dp _ _ (dpm (hide_ex _ _) hy), s1, s2, q _ H (W.push (.bl _))⟩
theorem ed_inLD (ha : Ed c ρ ta d1 ρ1) (hb : Ed c ρ1 tb (.list ds) ρ2) (s1 : SeqAt.shaped d1 = true) (s2 : SeqAt.shaped (.list ds) = true) : Ed c ρ (tOp (rInL c.K neg) ta tb) (.bool (if neg = true then !ds.any fun z => PyData.eqv z d1 else ds.any fun z => PyData.eqv z d1)) ρ2 :=
  ed_op ha hb fun T σ H x y W hx hy Q q => ⟨d1, ds, dz_dp _ _ (dpm (hide_ex _ _) hx), dz_dp _ _ (dpm (hide_ex _ _) hy), s1, s2, q _ H (W.push (.bl _))⟩
end
theorem room65 {k : Nat} {A : Around} (r : Room k A) : A.units + 65 < cLine := by have := r.un; omega
/-! equal data is equal -/
class EqE {α : Type} [DecidableEq α] (f : α → PyData) : Prop where
  eq : ∀ a b, PyData.eqv (f a) (f b) = decide (a = b)
instance : EqE PyData.int := ⟨eqv_int⟩
instance : EqE eQ := ⟨eqv_Q⟩
instance {α β : Type} [DecidableEq α] [DecidableEq β] {f : α → PyData} {g : β → PyData} [EqE f] [EqE g] : EqE (eP f g) := ⟨fun a b => by
  show PyData.eqv (.tuple [f a.1, g a.2]) (.tuple [f b.1, g b.2]) = _
  rw [PyData.eqv, PyData.eqvAll, PyData.eqvAll, PyData.eqvAll, EqE.eq a.1 b.1, EqE.eq a.2 b.2, Bool.and_true]
  obtain ⟨a1, a2⟩ := a
  obtain ⟨b1, b2⟩ := b
  by_cases h1 : a1 = b1 <;> by_cases h2 : a2 = b2 <;> simp [h1, h2]⟩
theorem eqvAll_map {α : Type} [DecidableEq α] {f : α → PyData} [EqE f] : ∀ l m : List α, PyData.eqvAll (l.map f) (m.map f) = decide (l = m)
  | [], [] => by simp [PyData.eqvAll]
  | [], b :: m => by simp [PyData.eqvAll]
  | a :: l, [] => by simp [PyData.eqvAll]
  | a :: l, b :: m => by
    rw [List.map_cons, List.map_cons, PyData.eqvAll, EqE.eq a b, eqvAll_map l m]
    by_cases h1 : a = b <;> by_cases h2 : l = m <;> simp [h1, h2]
instance {α : Type} [DecidableEq α] {f : α → PyData} [EqE f] : EqE (eT f) := ⟨fun a b => by
  show PyData.eqv (.tuple (a.map f)) (.tuple (b.map f)) = _
  rw [PyData.eqv, eqvAll_map]⟩
instance {α : Type} [DecidableEq α] {f : α → PyData} [EqE f] : EqE (eL f) := ⟨fun a b => by
  show PyData.eqv (.list (a.map f)) (.list (b.map f)) = _
  rw [PyData.eqv, eqvAll_map]⟩
theorem any_in {α : Type} [DecidableEq α] {f : α → PyData} [EqE f] (l : List α) (a : α) : ((l.map f).any fun z => PyData.eqv z (f a)) = decide (a ∈ l) := by
  induction l with
  | nil => simp
  | cons b l ih =>
    rw [List.map_cons, List.any_cons, ih, EqE.eq b a]
    by_cases h1 : b = a
    · simp [h1]
    · have h2 : ¬ a = b := fun e => h1 e.symm
      simp [h1, h2]
theorem in_data {α : Type} [DecidableEq α] {f : α → PyData} [EqE f] (l : List α) (a : α) : PyData.bool (if false = true then !(l.map f).any fun z => PyData.eqv z (f a) else (l.map f).any fun z => PyData.eqv z (f a)) = PyData.bool (decide (a ∈ l)) := by
  rw [if_neg (by decide), any_in]
theorem nin_data {α : Type} [DecidableEq α] {f : α → PyData} [EqE f] (l : List α) (a : α) : PyData.bool (if true = true then !(l.map f).any fun z => PyData.eqv z (f a) else (l.map f).any fun z => PyData.eqv z (f a)) = PyData.bool (!decide (a ∈ l)) := by
  rw [if_pos rfl, any_in]
abbrev I9 := Int × Int × Int × Int × Int × Int × Int × Int × Int
abbrev eI9 (p : I9) : PyData := .tuple [.int p.1, .int p.2.1, .int p.2.2.1, .int p.2.2.2.1, .int p.2.2.2.2.1, .int p.2.2.2.2.2.1, .int p.2.2.2.2.2.2.1, .int p.2.2.2.2.2.2.2.1, .int p.2.2.2.2.2.2.2.2]
end Nz

/-! walks of a dict's pairs while it is locked; dict comprehensions; two fors in one comprehension -/
namespace Nz
open PySem PySem.Spec PyProof.Rows L2 RZ
/-- walks that hold in each frame that keeps what c keeps -/
def WalksB (c0 : Cz) (J : It) (T1 : Tm) (ds : List Itm) : Prop := ∀ (c : Cz) (T : Tm) (σ : L2.St) (H : Hp) (ρ : List Sl), c.K = c0.K → c.M = c0.M → (∀ b o, c0.B b = some o → c.B b = some o) → Wd c (T1 ++ T) H σ ρ →
  (∀ i, i < ds.length → J.go i H ∧ ∀ x H', J.yld i H x H' → ∃ d, ds[i]? = some d ∧ YOk c (T1 ++ T) H' σ ρ x d) ∧ ∀ i, ds.length ≤ i → J.stop i H
def EiB (c : Cz) (ρ : List Sl) (wi : TI) (ds : List Itm) (ρ' : List Sl) : Prop := ∀ (T : Tm) (σ : L2.St) (H : Hp), Wd c T H σ ρ → ∀ R : It → Hp → Prop, (∀ J H' T1, Wd c (T1 ++ T) H' σ ρ' → WalksB c J T1 ds → R J H') → wi σ H R
section
variable {c : Cz} {ρ ρ1 ρ2 ρ3 : List Sl} {ta tb te tx tk tv : TE} {t u : TT} {d d1 d2 d3 : PyData} {T : Tm} {H H' : Hp} {σ : L2.St}
theorem Ei.b {wi : TI} {ds : List Itm} (h : Ei c ρ wi ds ρ1) : EiB c ρ wi ds ρ1 := fun T σ H W R q => h T σ H W R fun J H' T1 W1 hw => q J H' T1 W1 fun c' T' σ' H2 ρ' hK _ _ W' => hw c' T' σ' H2 ρ' hK W'
/-- by the turn: what the frame holds, what the new list holds -/
theorem el_lcB {wi : TI} {g : TG} {tt : TT} {vs : List Nat} {ds : List Itm} (h : EiB c ρ wi ds ρ1) (I : Nat → List Sl) (acc : Nat → List PyData) (hI : I 0 = ρ1) (hacc : acc 0 = []) (hsz : ds.length ≤ 100000)
    (hvs : ∀ i, i ≤ ds.length → ∀ j ∈ vs, (I i)[j]? = some .no)
    (turn : ∀ (S : List Addr) (B : Hp) (i : Nat) (d : Itm), ds[i]? = some d → ∃ (b : Bool) (ρa ρb : List Sl), Eg (c.at S B) g d (I i) ρa vs ∧ Et (c.at S B) ρa tt b ρb ∧
      (b = true → ∃ d' ρc, Ed (c.at S B) ρb te d' ρc ∧ acc (i + 1) = acc i ++ [d'] ∧ ∀ T H σ, Wd (c.at S B) T H σ ρc → Wd (c.at S B) T H (L2.wipe σ vs) (I (i + 1))) ∧
      (b = false → acc (i + 1) = acc i ∧ ∀ T H σ, Wd (c.at S B) T H σ ρb → Wd (c.at S B) T H (L2.wipe σ vs) (I (i + 1)))) : EdL c ρ (tLc wi g tt te vs) (acc ds.length) (I ds.length) := fun T σ H W Q q =>
  h T σ H W _ fun J H1 T1 W1 hw D hD => by
    have hB := W1.freshB hD
    have hsub := W1.sub
    have nS : D ∉ c.S0 := fun m => W1.fresh hD (List.mem_append_left _ m)
    have nM : D ∉ c.M := fun m => nS (hsub D m)
    obtain ⟨_, hDn, mo0, Wh⟩ := el_new W1 (.nil) hD
    have hvs0 := hvs 0 (Nat.zero_le _)
    rw [hI] at hvs0
    have eP : ∀ {i : Nat} {H2 : Hp}, Wd (c.hidden D) (T1 ++ T) H2 (L2.wipe σ vs) (I i) → D ∉ hid c (I i) := fun W2 => W2.notin nS hsub
    have accl : ∀ i, i ≤ ds.length → (acc i).length ≤ i := fun i => by
      induction i with
      | zero => intro _; rw [hacc]; exact Nat.le_refl _
      | succ i ih =>
        intro hi
        obtain ⟨b, _, _, _, _, g3, g4⟩ := turn [] (fun _ => none) i _ (List.getElem?_eq_getElem (show i < ds.length by omega))
        have := ih (by omega)
        cases b with
        | true =>
          obtain ⟨d', _, _, e, _⟩ := g3 rfl
          rw [e, List.length_append]; show _ + 1 ≤ _; omega
        | false => rw [(g4 rfl).1]; omega
    refine ⟨fun i m H2 => i + m = ds.length ∧ Wd (c.hidden D) (T1 ++ T) H2 (L2.wipe σ vs) (I i) ∧ MoOk c.K (D :: hid c (I i)) H2 D (.lst (acc i)), ⟨ds.length, by omega, by rw [hI]; exact Wh.wipe hvs0, by rw [hI, hacc]; exact mo0⟩, fun i m H2 ⟨hm, W2, mo⟩ => ?_⟩
    by_cases hi : i < ds.length
    · obtain ⟨xs, hxs, dxs⟩ := mo
      have lx := dpa_length dxs
      have la := accl i (by omega)
      have W2a : Wd (c.at (D :: c.S0) (upd c.B D (.lst xs))) (T1 ++ T) H2 (L2.wipe σ vs) (I i) := W2.pin hxs hB hsub nS
      have W2b : Wd (c.at (D :: c.S0) (upd c.B D (.lst xs))) (xs.zip (acc i) ++ (T1 ++ T)) H2 (L2.wipe σ vs) (I i) := W2a.pushAll dxs
      have W2c : Wd (c.at (D :: c.S0) (upd c.B D (.lst xs))) (T1 ++ (xs.zip (acc i) ++ T)) H2 (L2.wipe σ vs) (I i) := W2b.tmps fun p hp => by
        simp only [List.mem_append] at hp ⊢
        rcases hp with hp | hp | hp
        · exact .inr (.inl hp)
        · exact .inl hp
        · exact .inr (.inr hp)
      have hwk := hw (c.at (D :: c.S0) (upd c.B D (.lst xs))) _ _ _ _ rfl rfl (fun b o e => by show upd c.B D _ b = some o; rw [upd_ne (ne_of_none e hB)]; exact e) W2c
      refine .inr ⟨(hwk.1 i hi).1, fun H3 => Wd (c.hidden D) (T1 ++ T) H3 (L2.wipe σ vs) (I (i + 1)) ∧ MoOk c.K (D :: hid c (I (i + 1))) H3 D (.lst (acc (i + 1))), fun H3 h3 => ⟨m - 1, by omega, by omega, h3.1, h3.2⟩, fun x H3 hy => ?_⟩
      obtain ⟨d, hd, W3⟩ := (hwk.1 i hi).2 x H3 hy
      obtain ⟨b, ρa, ρb, g1, g2, g3, g4⟩ := turn (D :: c.S0) (upd c.B D (.lst xs)) i d hd
      refine g1 _ _ _ _ W3 _ fun σ2 H4 W4 ew => ⟨by rw [ew, wipe_wipe], g2 _ σ2 H4 W4 _ fun H5 W5 => ?_⟩
      rw [wipe_wipe] at ew
      cases b with
      | true =>
        rw [if_pos rfl]
        obtain ⟨d', ρc, g5, ea, wk⟩ := g3 rfl
        refine g5 _ σ2 H5 W5 _ fun y H6 W6 => ?_
        have W7 := wk _ _ _ W6
        rw [ew] at W7
        obtain ⟨hx6, W8⟩ := W7.unpin hB nM
        have hn8 := W8.notin nS hsub
        refine ⟨xs, hx6, Nat.lt_of_lt_of_le (show xs.length < 100000 by omega) (by decide), ?_, ?_⟩
        · refine (W8.updHid hB hn8).tmps fun p hp => List.mem_cons_of_mem _ ?_
          simp only [List.mem_append] at hp ⊢
          rcases hp with hp | hp
          · exact .inl hp
          · exact .inr (.inr hp)
        · refine ⟨xs ++ [y], upd_same, ?_⟩
          rw [ea]
          have W9 := W8.updHid (u := .lst (xs ++ [y])) hB hn8
          have a1 : DzAll c.K (hide (hid (c.hidden D) (I (i + 1))) (upd H6 D (.lst (xs ++ [y])))) xs (acc i) := Wd.allOf (T := (y, d') :: (T1 ++ T)) lx (W9.tmps fun p hp => by
            simp only [List.mem_append, List.mem_cons] at hp ⊢
            rcases hp with hp | hp | hp | hp
            · exact .inr (.inr (.inl hp))
            · exact .inl hp
            · exact .inr (.inl hp)
            · exact .inr (.inr (.inr hp)))
          exact dpa_append a1 (.cons (W9.tmp (y, d') (List.mem_cons_self ..)) .nil)
      | false =>
        rw [if_neg (by decide)]
        obtain ⟨ea, wk⟩ := g4 rfl
        have W7 := wk _ _ _ W5
        rw [ew] at W7
        obtain ⟨hx6, W8⟩ := W7.unpin hB nM
        refine ⟨W8.tmps fun p hp => ?_, xs, hx6, ?_⟩
        · simp only [List.mem_append] at hp ⊢
          rcases hp with hp | hp
          · exact .inl hp
          · exact .inr (.inr hp)
        · rw [ea]
          exact Wd.allOf (T := T1 ++ T) lx (W8.tmps fun p hp => by
            simp only [List.mem_append, List.mem_cons] at hp ⊢
            rcases hp with hp | hp | hp
            · exact .inr (.inl hp)
            · exact .inl hp
            · exact .inr (.inr hp))
    · have ei : i = ds.length := by omega
      subst ei
      refine .inl ⟨(hw (c.hidden D) T (L2.wipe σ vs) H2 (I ds.length) rfl rfl (fun _ _ e => e) W2).2 _ (Nat.le_refl _), ?_⟩
      have W4 : Wd (c.hidden D) T H2 (L2.wipe σ vs) (I ds.length) := W2.tmps fun p hp => List.mem_append_right _ hp
      exact q D H2 hB (eP W2) mo (W4.unwipe (hvs _ (Nat.le_refl _)))
theorem el_lcPB {α : Type} {wi : TI} {g : TG} {tt : TT} {vs : List Nat} (xs : List α) (ea : α → Itm) (p : α → Bool) (eb : α → PyData) (h : EiB c ρ wi (xs.map ea) ρ1) (hsz : xs.length ≤ 100000) (hvs : ∀ j ∈ vs, ρ1[j]? = some .no)
    (turn : ∀ (S : List Addr) (B : Hp) (x : α), x ∈ xs → ∃ ρa, Nz.wipeS ρa vs = ρ1 ∧ Eg (c.at S B) g (ea x) ρ1 ρa vs ∧ Et (c.at S B) ρa tt (p x) ρa ∧ (p x = true → Ed (c.at S B) ρa te (eb x) ρa)) :
    EdL c ρ (tLc wi g tt te vs) ((xs.filter p).map eb) ρ1 := by
  have key := el_lcB (c := c) (tt := tt) (te := te) (vs := vs) h (fun _ => ρ1) (fun i => ((xs.take i).filter p).map eb) rfl (by simp) (by rw [List.length_map]; exact hsz) (fun _ _ => hvs) (fun S B i d hd => by
    rw [List.getElem?_map] at hd
    cases hx : xs[i]? with
    | none => rw [hx] at hd; cases hd
    | some x =>
      rw [hx] at hd
      have hd : ea x = d := Option.some.inj hd
      subst hd
      obtain ⟨ρa, hw, g1, g2, g3⟩ := turn S B x (List.mem_of_getElem? hx)
      refine ⟨p x, ρa, ρa, g1, g2, fun hp => ⟨eb x, ρa, g3 hp, ?_, fun T H σ W => hw ▸ W.wipeS vs⟩, fun hp => ⟨?_, fun T H σ W => hw ▸ W.wipeS vs⟩⟩
      · rw [List.take_add_one, hx]
        simp [hp]
      · rw [List.take_add_one, hx]
        simp [hp])
  have e : (List.map eb (List.filter p (List.take (List.map ea xs).length xs))) = (xs.filter p).map eb := by
    rw [List.length_map, List.take_length]
  rw [e] at key
  exact key
/-- all items -/
theorem el_lcAB {α : Type} {wi : TI} {g : TG} {vs : List Nat} (xs : List α) (ea : α → Itm) (eb : α → PyData) (h : EiB c ρ wi (xs.map ea) ρ1) (hsz : xs.length ≤ 100000) (hvs : ∀ j ∈ vs, ρ1[j]? = some .no)
    (turn : ∀ (S : List Addr) (B : Hp) (x : α), x ∈ xs → ∃ ρa, Nz.wipeS ρa vs = ρ1 ∧ Eg (c.at S B) g (ea x) ρ1 ρa vs ∧ Ed (c.at S B) ρa te (eb x) ρa) :
    EdL c ρ (tLc wi g tYes te vs) (xs.map eb) ρ1 := by
  have key := el_lcPB (c := c) (tt := tYes) (te := te) (vs := vs) xs ea (fun _ => true) eb h hsz hvs (fun S B x hx => by
    obtain ⟨ρa, hw, g1, g2⟩ := turn S B x hx
    exact ⟨ρa, hw, g1, fun T σ H W Q q => q H W, fun _ => g2⟩)
  rw [List.filter_eq_self.mpr (fun _ _ => rfl)] at key
  exact key

/-- what c hides, in another order -/
theorem Wd.reS {S S' : List Addr} {B : Hp} (W : Wd (c.at S B) T H σ ρ) (h : ∀ x, x ∈ S ↔ x ∈ S') : Wd (c.at S' B) T H σ ρ := by
  have e : ∀ b, b ∈ hid (c.at S' B) ρ → b ∈ hid (c.at S B) ρ := fun b m => by
    rcases List.mem_append.mp m with m | m
    · exact List.mem_append_left _ ((h b).mpr m)
    · exact List.mem_append_right _ m
  have e2 : Ex (hide (hid (c.at S B) ρ) H) (hide (hid (c.at S' B) ρ) H) := hide_mono fun a o n q => ⟨fun m => n (e a m), q⟩
  refine ⟨W.len, W.keep, fun a m => (h a).mp (W.sub a m), fun a m => W.dom a ((h a).mpr m), fun p hp => dpm e2 (W.tmp p hp), W.inj, fun i a o q m => W.ap i a o q ((h a).mpr m), fun i s q => ?_⟩
  have := slOk_mono (H' := H) e2 (fun _ _ => rfl) (W.ok i s q)
  cases s <;> exact this
/-- a slot's own thing is hidden, the slot known as a mere value -/
theorem Wd.slotHide {a : Addr} {o : MO} {i : Nat} (W : Wd c T H σ ρ) (hi : ρ[i]? = some (.mu true a o)) : Wd (c.hidden a) T H σ (ρ.set i (.vl (.ref a))) ∧ a ∉ hid c (ρ.set i (.vl (.ref a))) := by
  have il : i < ρ.length := (List.getElem?_eq_some_iff.mp hi).1
  have r : ∀ {j : Nat} {m : Bool} {b : Addr} {u : MO}, (ρ.set i (.vl (.ref a)))[j]? = some (.mu m b u) → i ≠ j ∧ ρ[j]? = some (.mu m b u) := fun {j m b u} h => by
    rcases get_set h with ⟨_, _, e⟩ | e
    · cases e
    · exact e
  have na : ∀ {j : Nat} {m : Bool} {b : Addr} {u : MO}, (ρ.set i (.vl (.ref a)))[j]? = some (.mu m b u) → b ≠ a := fun {j m b u} h q => by
    subst q
    obtain ⟨n, e⟩ := r h
    exact n (W.inj i j _ _ _ _ _ hi e)
  have nS : a ∉ c.S0 := W.ap i a o hi
  have nin : a ∉ hid c (ρ.set i (.vl (.ref a))) := fun m => by
    rcases List.mem_append.mp m with m | m
    · exact nS m
    · obtain ⟨j, l, u, e⟩ := mem_muts.mp m
      exact na e rfl
  have sub : ∀ b, b ∈ hid (c.hidden a) (ρ.set i (.vl (.ref a))) → b ∈ hid c ρ := fun b m => by
    rcases List.mem_append.mp m with m | m
    · rcases List.mem_cons.mp m with m | m
      · rw [m]; exact List.mem_append_right _ (mem_muts.mpr ⟨i, _, _, hi⟩)
      · exact List.mem_append_left _ m
    · obtain ⟨j, l, u, e⟩ := mem_muts.mp m
      exact List.mem_append_right _ (mem_muts.mpr ⟨j, l, u, (r e).2⟩)
  have e2 : Ex (hide (hid c ρ) H) (hide (hid (c.hidden a) (ρ.set i (.vl (.ref a)))) H) := hide_mono fun b v n h => ⟨fun m => n (sub b m), h⟩
  refine ⟨⟨by rw [List.length_set]; exact W.len, W.keep, fun b m => List.mem_cons_of_mem _ (W.sub b m), fun b m => ?_, fun q hq => dpm e2 (W.tmp q hq), fun j k l m b u u' h1 h2 => W.inj j k l m b u u' (r h1).2 (r h2).2, fun j b u h m => ?_, fun j s h => ?_⟩, nin⟩
  · rcases List.mem_cons.mp m with m | m
    · rw [m]; exact (W.ok i _ hi).2.2.there
    · exact W.dom b m
  · rcases List.mem_cons.mp m with m | m
    · exact na h m
    · exact W.ap j b u (r h).2 m
  · rcases get_set h with ⟨q, _, e⟩ | ⟨q, e⟩
    · subst e; subst q; exact (W.ok i _ hi).1
    · have := slOk_mono (c := c) (H' := H) e2 (fun _ _ => rfl) (W.ok j s e)
      cases s <;> exact this
theorem kvd_ints {K : PySem.W.Frag} {H : Hp} : ∀ {kvs : List (Int × Int)} {xs : List (Key × V)}, KVd K H xs (eD PyData.int kvs) → xs = kvs.map fun p => (Sum.inl p.1, V.int p.2)
  | [], _, h => by cases h; rfl
  | p :: kvs, _, h => by
    cases h with
    | cons a t =>
      rename_i x xs
      obtain ⟨x1, x2⟩ := x
      obtain ⟨a1, a2⟩ := a
      dsimp only at a1 a2
      rw [a1, dp_int a2, kvd_ints t]; rfl
theorem set_of {α : Type} {l : List α} {i : Nat} {x : α} (h : l[i]? = some x) : l.set i x = l := by
  apply List.ext_getElem?
  intro k
  by_cases q : i = k
  · subst q
    rw [List.getElem?_set_self (List.getElem?_eq_some_iff.mp h).1, h]
  · rw [List.getElem?_set_ne q]
theorem kvd_of {K : PySem.W.Frag} {H : Hp} : ∀ {kvs : List (Int × Int)}, KVd K H (kvs.map fun p => (Sum.inl p.1, V.int p.2)) (eD PyData.int kvs)
  | [] => .nil
  | p :: kvs => .cons ⟨rfl, .int _⟩ kvd_of
/-- [.. for k, v in d.items()], of a dict of ints with int keys -/
theorem el_lcDI {β : Type} {enc : β → PyData} {fb : Int × Int → β} {i : Nat} {a : Addr} {kvs : List (Int × Int)} {g : TG} {vs : List Nat} (ha : ρ[i]? = some (.mu true a (.dK (eD PyData.int kvs)))) (hsz : kvs.length ≤ 100000) (hvs : ∀ v, ∀ j ∈ vs, (ρ.set i (.vl v))[j]? = some .no)
    (turn : ∀ (S : List Addr) (B : Hp) (x : Int × Int), x ∈ kvs → ∃ ρa, Nz.wipeS ρa vs = ρ.set i (.vl (.ref a)) ∧ Eg (c.at S B) g (.soft [.int x.1, .int x.2]) (ρ.set i (.vl (.ref a))) ρa vs ∧ Ed (c.at S B) ρa te (enc (fb x)) ρa) :
    EdL c ρ (tLockE (tLc (iItems (tVar i)) g tYes te vs)) ((kvs.map fb).map enc) ρ := fun T σ H W Q q => by
  obtain ⟨h1, hB0, xs, e3, e4⟩ := W.ok i _ ha
  rw [if_pos rfl] at hB0
  have ex := kvd_ints e4
  subst ex
  have nS : a ∉ c.S0 := W.ap i a _ ha
  have nM : a ∉ c.M := fun m => nS (W.sub a m)
  refine ⟨a, _, e3, trivial, fun od => ?_⟩
  obtain ⟨W0, n0⟩ := W.slotHide ha
  have W1 := (W0.updHid (u := .frz od (.dK (kvs.map fun p => (Sum.inl p.1, V.int p.2)))) hB0 n0).pin upd_same hB0 W.sub nS
  have key := el_lcAB (c := c.at (a :: c.S0) (upd c.B a (.frz od (.dK (kvs.map fun p => (Sum.inl p.1, V.int p.2)))))) (ρ := ρ.set i (.vl (.ref a))) (ρ1 := ρ.set i (.vl (.ref a))) (wi := iItems (tVar i)) (g := g) (te := te) (vs := vs) kvs (fun p => .soft [.int p.1, .int p.2]) (fun p => enc (fb p)) (fun T2 σ2 H2 W2 R q2 => ?_) hsz (hvs _) (fun S B x hx => turn S B x hx) T σ _ W1
  · refine key _ fun p H' pB pn pm pW => ?_
    have Ha : H' a = some (.frz od (.dK (kvs.map fun p => (Sum.inl p.1, V.int p.2)))) := pW.keep a _ nM upd_same
    have hpa : p ≠ a := fun e => by
      subst e
      have pB : upd c.B p _ p = none := pB
      rw [upd_same] at pB; cases pB
    have pB' : c.B p = none := by
      have pB : upd c.B a _ p = none := pB
      rw [upd_ne hpa] at pB; exact pB
    have pW2 : Wd ((c.hidden p).at (a :: (c.hidden p).S0) (upd (c.hidden p).B a (.frz od (.dK (kvs.map fun p => (Sum.inl p.1, V.int p.2)))))) T H' σ (ρ.set i (.vl (.ref a))) := Wd.reS (S := p :: a :: c.S0) pW (fun x => by simp only [List.mem_cons]; exact ⟨fun h => h.elim (fun e => .inr (.inl e)) (fun h => h.elim .inl (fun h => .inr (.inr h))), fun h => h.elim (fun e => .inr (.inl e)) (fun h => h.elim .inl (fun h => .inr (.inr h)))⟩)
    obtain ⟨_, pW3⟩ := pW2.unpin (c := c.hidden p) hB0 nM
    have nh : a ∉ hid (c.hidden p) (ρ.set i (.vl (.ref a))) := fun m => by
      rcases List.mem_append.mp m with m | m
      · rcases List.mem_cons.mp m with m | m
        · exact hpa m.symm
        · exact nS m
      · exact n0 (List.mem_append_right _ m)
    have pW4 := pW3.updHid (c := c.hidden p) (u := .dK (kvs.map fun p => (Sum.inl p.1, V.int p.2))) hB0 nh
    have pW5 := pW4.setM (c := c.hidden p) (l := true) (o := .dK (eD PyData.int kvs)) (fun b m => List.mem_cons_of_mem _ (W.sub b m)) i (by rw [if_pos rfl]; exact hB0) nh ⟨_, upd_same, kvd_of⟩
    have σi : σ.set i (some (.ref a)) = σ := set_of h1
    have ρi : (ρ.set i (.vl (.ref a))).set i (.mu true a (.dK (eD PyData.int kvs))) = ρ := by rw [List.set_set]; exact set_of ha
    rw [σi, ρi] at pW5
    refine ⟨Ha, q p _ pB' (fun m => ?_) ?_ pW5⟩
    · rcases List.mem_append.mp m with m | m
      · exact pn (List.mem_append_left _ (List.mem_cons_of_mem _ m))
      · obtain ⟨j, l, u, e⟩ := mem_muts.mp m
        by_cases hij : i = j
        · subst hij; rw [ha] at e; cases e; exact hpa rfl
        · exact pn (List.mem_append_right _ (mem_muts.mpr ⟨j, l, u, by rw [List.getElem?_set_ne hij]; exact e⟩))
    · have pm : MoOk c.K (p :: hid (c.at (a :: c.S0) (upd c.B a (.frz od (.dK (kvs.map fun p => (Sum.inl p.1, V.int p.2)))))) (ρ.set i (.vl (.ref a)))) H' p (.lst ((kvs.map fb).map enc)) := by rw [List.map_map]; exact pm
      refine MoOk.mono (hide_mono fun b o n h => ⟨fun m => ?_, ?_⟩) (upd_ne hpa) pm
      · rcases List.mem_cons.mp m with m | m
        · exact n (by rw [m]; exact List.mem_cons_self ..)
        · rcases List.mem_append.mp m with m | m
          · exact n (List.mem_cons_of_mem _ (List.mem_append_left _ (List.mem_cons_of_mem _ m)))
          · obtain ⟨j, l, u, e⟩ := mem_muts.mp m
            by_cases hij : i = j
            · subst hij; rw [ha] at e; cases e
              exact n (List.mem_cons_of_mem _ (List.mem_append_left _ (List.mem_cons_self ..)))
            · exact n (List.mem_cons_of_mem _ (List.mem_append_right _ (mem_muts.mpr ⟨j, l, u, by rw [List.getElem?_set_ne hij]; exact e⟩)))
      · rw [upd_ne (fun e => by subst e; exact n (List.mem_cons_of_mem _ (List.mem_append_left _ (List.mem_cons_self ..))))]; exact h
  · have hv : (ρ.set i (.vl (.ref a)))[i]? = some (.vl (.ref a)) := List.getElem?_set_self (List.getElem?_eq_some_iff.mp ha).1
    refine ⟨.ref a, W2.ok i _ hv, a, od, _, rfl, W2.keep a _ nM upd_same, q2 _ H2 [] W2 ?_⟩
    rintro c' T' σ' H3 ρ' hK hM hB W'
    have Ha : H3 a = some (.frz od (.dK (kvs.map fun p => (Sum.inl p.1, V.int p.2)))) := W'.keep a _ (by rw [hM]; exact nM) (hB a _ upd_same)
    rw [List.length_map]
    refine ⟨fun j hj => ⟨⟨Ha, by rw [List.length_map]; exact hj⟩, fun x H4 hy => ?_⟩, fun j hj => ⟨Ha, by rw [List.length_map]; exact hj⟩⟩
    obtain ⟨P, k, v, hk, rfl, hP, rfl⟩ := hy
    rw [List.getElem?_map, List.getElem?_eq_getElem hj] at hk
    cases hk
    refine ⟨.soft [.int kvs[j].1, .int kvs[j].2], by rw [List.getElem?_map, List.getElem?_eq_getElem hj]; rfl, P, [V.int _, V.int _], rfl, .inl (.inl upd_same), rfl, ?_⟩
    exact ((W'.grow (Ex.new (o := .tup [V.int kvs[j].1, V.int kvs[j].2]) hP)).push (.int _)).push (.int _)

/-! a new dict by a comprehension, of bools -/
def EdDc (c : Cz) (ρ : List Sl) (te : TE) (ks : List (Key × PyData)) (ρ' : List Sl) : Prop := ∀ (T : Tm) (σ : L2.St) (H : Hp), Wd c T H σ ρ → ∀ Q : VK,
  (∀ p H', c.B p = none → p ∉ hid c ρ' → MoOk c.K (p :: hid c ρ') H' p (.dK ks) → Wd (c.hidden p) T H' σ ρ' → Q (.ref p) H') → te σ H Q
theorem dc_new {p : Addr} (W : Wd c T H σ ρ) (hp : H p = none) : c.B p = none ∧ p ∉ hid c ρ ∧ Wd (c.hidden p) T (upd H p (.dK [])) σ ρ := ⟨W.freshB hp, W.fresh hp, W.hideNew hp⟩
theorem el_dcA {α : Type} {wi : TI} {g : TG} {vs : List Nat} {xs : List α} {ea : α → Itm} {fk : α → Int} {fv : α → Bool} (h : Ei c ρ wi (xs.map ea) ρ1) (hsz : xs.length ≤ 100000) (hvs : ∀ j ∈ vs, ρ1[j]? = some .no)
    (turn : ∀ (S : List Addr) (B : Hp) (x : α), x ∈ xs → ∃ ρa, Nz.wipeS ρa vs = ρ1 ∧ Eg (c.at S B) g (ea x) ρ1 ρa vs ∧ Ed (c.at S B) ρa tk (.int (fk x)) ρa ∧ Ed (c.at S B) ρa tv (.bool (fv x)) ρa) :
    EdDc c ρ (tDc wi g tYes tk tv vs) (xs.foldl (fun l x => putP l (Sum.inl (fk x)) (.bool (fv x))) []) ρ1 := fun T σ H W Q q =>
  h T σ H W _ fun J H1 T1 W1 hw D hD => by
    have hB := W1.freshB hD
    have hsub := W1.sub
    have nS : D ∉ c.S0 := fun m => W1.fresh hD (List.mem_append_left _ m)
    have nM : D ∉ c.M := fun m => nS (hsub D m)
    obtain ⟨_, hDn, Wh⟩ := dc_new W1 hD
    let acc : Nat → List (Key × PyData) := fun i => (xs.take i).foldl (fun l x => putP l (Sum.inl (fk x)) (.bool (fv x))) []
    have hacc : ∀ i (x : α), xs[i]? = some x → acc (i + 1) = putP (acc i) (Sum.inl (fk x)) (.bool (fv x)) := fun i x hx => by
      show (xs.take (i + 1)).foldl _ _ = _
      rw [List.take_add_one, hx, List.foldl_append]; rfl
    have accl : ∀ i, i ≤ xs.length → (acc i).length ≤ i := fun i => by
      induction i with
      | zero => intro _; exact Nat.le_refl _
      | succ i ih =>
        intro hi
        rw [hacc i _ (List.getElem?_eq_getElem (show i < xs.length by omega))]
        have := putP_len (acc i) (Sum.inl (fk xs[i])) (PyData.bool (fv xs[i]))
        have := ih (by omega)
        omega
    have eP : ∀ {H2 : Hp}, Wd (c.hidden D) (T1 ++ T) H2 (L2.wipe σ vs) ρ1 → D ∉ hid c ρ1 := fun W2 => W2.notin nS hsub
    refine ⟨fun i m H2 => i + m = xs.length ∧ Wd (c.hidden D) (T1 ++ T) H2 (L2.wipe σ vs) ρ1 ∧ ∃ zs, H2 D = some (.dK zs) ∧ ∀ K H, KVd K H zs (acc i), ⟨xs.length, by omega, Wh.wipe hvs, [], upd_same, fun _ _ => .nil⟩, fun i m H2 ⟨hm, W2, zs, hzs, kz⟩ => ?_⟩
    by_cases hi : i < xs.length
    · have lz := kvd_len (kz c.K H2)
      have la := accl i (by omega)
      have W2a : Wd (c.at (D :: c.S0) (upd c.B D (.dK zs))) (T1 ++ T) H2 (L2.wipe σ vs) ρ1 := W2.pin hzs hB hsub nS
      have hwk := hw (c.at (D :: c.S0) (upd c.B D (.dK zs))) _ _ _ _ rfl W2a
      have hi' : i < (xs.map ea).length := by rw [List.length_map]; exact hi
      refine .inr ⟨(hwk.1 i hi').1, fun H3 => Wd (c.hidden D) (T1 ++ T) H3 (L2.wipe σ vs) ρ1 ∧ ∃ zs, H3 D = some (.dK zs) ∧ ∀ K H, KVd K H zs (acc (i + 1)), fun H3 h3 => ⟨m - 1, by omega, by omega, h3.1, h3.2⟩, fun x H3 hy => ?_⟩
      obtain ⟨d, hd, W3⟩ := (hwk.1 i hi').2 x H3 hy
      rw [List.getElem?_map, List.getElem?_eq_getElem hi] at hd
      have hd : ea xs[i] = d := Option.some.inj hd
      subst hd
      obtain ⟨ρa, hwp, g1, g2, g3⟩ := turn (D :: c.S0) (upd c.B D (.dK zs)) xs[i] (List.getElem_mem hi)
      refine g1 _ _ _ _ W3 _ fun σ2 H4 W4 ew => ⟨by rw [ew, wipe_wipe], ?_⟩
      rw [wipe_wipe] at ew
      dsimp only [tYes]
      rw [if_pos rfl]
      refine g2 _ σ2 H4 W4 _ fun y H5 W5 => g3 _ σ2 H5 W5 _ fun z H6 W6 => ?_
      have W7 := (hwp ▸ W6.wipeS vs : Wd _ _ _ _ ρ1)
      rw [ew] at W7
      have ey := dp_int W6.pop.dp
      have ez := dp_bl W6.dp
      obtain ⟨hx6, W8⟩ := W7.unpin hB nM
      have hn8 := W8.notin nS hsub
      refine ⟨zs, Sum.inl (fk xs[i]), ey, hx6, Nat.lt_of_lt_of_le (show zs.length < 100000 by omega) (by decide), (W8.updHid hB hn8).pop.pop, _, upd_same, fun K H => ?_⟩
      rw [hacc i _ (List.getElem?_eq_getElem hi), ez]
      exact kvd_put (kz K H) (.bl _)
    · have ei : i = xs.length := by omega
      subst ei
      refine .inl ⟨(hw (c.hidden D) T (L2.wipe σ vs) H2 ρ1 rfl W2).2 _ (by rw [List.length_map]; exact Nat.le_refl _), ?_⟩
      have W4 : Wd (c.hidden D) T H2 (L2.wipe σ vs) ρ1 := W2.tmps fun p hp => List.mem_append_right _ hp
      have e : acc xs.length = xs.foldl (fun l x => putP l (Sum.inl (fk x)) (.bool (fv x))) [] := by show (xs.take xs.length).foldl _ _ = _; rw [List.take_length]
      exact q D H2 hB (eP W2) ⟨zs, hzs, e ▸ kz _ _⟩ (W4.unwipe hvs)
def rLenDk : List V → Hp → VK → Prop := fun xs H Q => ∃ a kvs, xs = [V.ref a] ∧ H a = some (.dK kvs) ∧ Q (.int (kvs : List (Key × V)).length) H
theorem cr_lenDk {X : Cx} : CallR X (.builtin "len") rLenDk := call_lenD
theorem ed_lenDc {ks : List (Key × PyData)} (h : EdDc c ρ te ks ρ1) : Ed c ρ (tCB rLenDk (tCons te tNil)) (.int (ks.length : Int)) ρ1 := fun T σ H W Q q => h T σ H W _ fun p H1 pB pn pm pW => by
  obtain ⟨xs, e1, e2⟩ := pm
  refine ⟨p, xs, rfl, e1, ?_⟩
  rw [kvd_len e2]
  exact q _ H1 ((pW.unhide W.sub).push (.int _))
/-! two fors in one comprehension -/
theorem wipe_at {k : Nat} : ∀ {σ : L2.St} {ws : List Nat}, k ∈ ws → (L2.wipe σ ws)[k]? = (σ.map fun _ => (none : Option V))[k]?
  | σ, y :: ys, hm => by
    show ((L2.wipe σ ys).set y none)[k]? = _
    by_cases qq : y = k
    · subst qq
      rw [List.getElem?_set, L2.wipe_length, List.getElem?_map]
      simp
      by_cases hk : y < σ.length
      · simp [hk]
      · simp [hk]
    · rw [List.getElem?_set_ne qq]
      exact wipe_at (by
        rcases List.mem_cons.mp hm with hm | hm
        · exact absurd hm.symm qq
        · exact hm)
theorem wipe_in {σ : L2.St} {vs vs1 : List Nat} (h : ∀ j ∈ vs1, j ∈ vs) : L2.wipe (L2.wipe σ vs1) vs = L2.wipe σ vs := by
  apply List.ext_getElem?
  intro k
  by_cases m : k ∈ vs
  · rw [wipe_at m, wipe_at m, List.getElem?_map, List.getElem?_map]
    by_cases hk : k < σ.length
    · rw [List.getElem?_eq_getElem hk, List.getElem?_eq_getElem (by rw [L2.wipe_length]; exact hk)]; rfl
    · have h1 : (L2.wipe σ vs1)[k]? = none := List.getElem?_eq_none_iff.mpr (by rw [L2.wipe_length]; omega)
      have h2 : σ[k]? = none := List.getElem?_eq_none_iff.mpr (by omega)
      rw [h1, h2]
  · rw [wipe_get m, wipe_get m, wipe_get fun q => m (h k q)]
/-- a list of data that grows by one -/
theorem grow1 {D : Addr} {S : List Addr} {xs : List V} {y : V} {ds : List PyData} {d' : PyData} (hB : c.B D = none) (nM : D ∉ c.M) (nS : D ∉ c.S0) (hsub : ∀ a ∈ c.M, a ∈ c.S0) (lx : xs.length = ds.length)
    (W : Wd (c.at (D :: c.S0) (upd c.B D (.lst xs))) ((y, d') :: (xs.zip ds ++ T)) H σ ρ) : H D = some (.lst xs) ∧ Wd (c.hidden D) T (upd H D (.lst (xs ++ [y]))) σ ρ ∧ MoOk c.K (D :: hid c ρ) (upd H D (.lst (xs ++ [y]))) D (.lst (ds ++ [d'])) := by
  obtain ⟨hx6, W8⟩ := W.unpin hB nM
  have hn8 := W8.notin nS hsub
  have W9 := W8.updHid (u := .lst (xs ++ [y])) hB hn8
  refine ⟨hx6, W9.tmps fun p hp => List.mem_cons_of_mem _ (List.mem_append_right _ hp), xs ++ [y], upd_same, ?_⟩
  have a1 : DzAll c.K (hide (hid (c.hidden D) ρ) (upd H D (.lst (xs ++ [y])))) xs ds := Wd.allOf (T := (y, d') :: T) lx (W9.tmps fun p hp => by
    simp only [List.mem_append, List.mem_cons] at hp ⊢
    rcases hp with hp | hp | hp
    · exact .inr (.inl hp)
    · exact .inl hp
    · exact .inr (.inr hp))
  exact dpa_append a1 (.cons (W9.tmp (y, d') (List.mem_cons_self ..)) .nil)
theorem el_lc2A {α β γ : Type} {wi wi1 : TI} {g g1 : TG} {vs vs1 : List Nat} {xs : List α} {ea : α → Itm} {ys : α → List β} {eb : α → β → Itm} {enc : γ → PyData} {fb : α → β → γ} (h : Ei c ρ wi (xs.map ea) ρ1) (hsz : (xs.flatMap fun x => (ys x).map (fb x)).length ≤ 100000) (hvs : ∀ j ∈ vs, ρ1[j]? = some .no) (hv1 : ∀ j ∈ vs1, j ∈ vs)
    (turn : ∀ (S : List Addr) (B : Hp) (x : α), x ∈ xs → ∃ ρa, Nz.wipeS ρa vs = ρ1 ∧ (∀ j ∈ vs1, ρa[j]? = some .no) ∧ Eg (c.at S B) g (ea x) ρ1 ρa vs ∧ Ei (c.at S B) ρa wi1 ((ys x).map (eb x)) ρa ∧
      ∀ (S : List Addr) (B : Hp) (y : β), y ∈ ys x → ∃ ρb, Nz.wipeS ρb vs1 = ρa ∧ Eg (c.at S B) g1 (eb x y) ρa ρb vs1 ∧ Ed (c.at S B) ρb te (enc (fb x y)) ρb) :
    EdL c ρ (tLc2 wi g tYes wi1 g1 tYes te vs vs1) ((xs.flatMap fun x => (ys x).map (fb x)).map enc) ρ1 := fun T σ H W Q q =>
  h T σ H W _ fun J H1 T1 W1 hw D hD => by
    have hB := W1.freshB hD
    have hsub := W1.sub
    have nS : D ∉ c.S0 := fun m => W1.fresh hD (List.mem_append_left _ m)
    have nM : D ∉ c.M := fun m => nS (hsub D m)
    obtain ⟨_, hDn, mo0, Wh⟩ := el_new W1 (.nil) hD
    let acc : Nat → List PyData := fun i => ((xs.take i).flatMap fun x => (ys x).map (fb x)).map enc
    have hacc : ∀ i (x : α), xs[i]? = some x → acc (i + 1) = acc i ++ ((ys x).map (fb x)).map enc := fun i x hx => by
      show ((xs.take (i + 1)).flatMap fun x => (ys x).map (fb x)).map enc = _
      rw [List.take_add_one, hx, List.flatMap_append, List.map_append]
      simp [acc]
    have accl : ∀ i, (acc i).length ≤ 100000 := fun i => by
      refine Nat.le_trans ?_ hsz
      show (((xs.take i).flatMap fun x => (ys x).map (fb x)).map enc).length ≤ _
      have e : (xs.flatMap fun x => (ys x).map (fb x)).length = ((xs.take i).flatMap fun x => (ys x).map (fb x)).length + ((xs.drop i).flatMap fun x => (ys x).map (fb x)).length := by rw [← List.length_append, ← List.flatMap_append, List.take_append_drop]
      rw [List.length_map]; omega
    have eP : ∀ {H2 : Hp}, Wd (c.hidden D) (T1 ++ T) H2 (L2.wipe σ vs) ρ1 → D ∉ hid c ρ1 := fun W2 => W2.notin nS hsub
    refine ⟨fun i m H2 => i + m = xs.length ∧ Wd (c.hidden D) (T1 ++ T) H2 (L2.wipe σ vs) ρ1 ∧ MoOk c.K (D :: hid c ρ1) H2 D (.lst (acc i)), ⟨xs.length, by omega, Wh.wipe hvs, mo0⟩, fun i m H2 ⟨hm, W2, mo⟩ => ?_⟩
    by_cases hi : i < xs.length
    · obtain ⟨zs, hzs, dzs⟩ := mo
      have lx := dpa_length dzs
      have W2a : Wd (c.at (D :: c.S0) (upd c.B D (.lst zs))) (T1 ++ T) H2 (L2.wipe σ vs) ρ1 := W2.pin hzs hB hsub nS
      have W2c : Wd (c.at (D :: c.S0) (upd c.B D (.lst zs))) (T1 ++ (zs.zip (acc i) ++ T)) H2 (L2.wipe σ vs) ρ1 := (W2a.pushAll dzs).tmps fun p hp => by
        simp only [List.mem_append] at hp ⊢
        rcases hp with hp | hp | hp
        · exact .inr (.inl hp)
        · exact .inl hp
        · exact .inr (.inr hp)
      have hwk := hw (c.at (D :: c.S0) (upd c.B D (.lst zs))) _ _ _ _ rfl W2c
      have hi' : i < (xs.map ea).length := by rw [List.length_map]; exact hi
      refine .inr ⟨(hwk.1 i hi').1, fun H3 => Wd (c.hidden D) (T1 ++ T) H3 (L2.wipe σ vs) ρ1 ∧ MoOk c.K (D :: hid c ρ1) H3 D (.lst (acc (i + 1))), fun H3 h3 => ⟨m - 1, by omega, by omega, h3.1, h3.2⟩, fun x H3 hy => ?_⟩
      obtain ⟨d, hd, W3⟩ := (hwk.1 i hi').2 x H3 hy
      rw [List.getElem?_map, List.getElem?_eq_getElem hi] at hd
      have hd : ea xs[i] = d := Option.some.inj hd
      subst hd
      obtain ⟨ρa, hwp, hno, g1', g2, g3⟩ := turn (D :: c.S0) (upd c.B D (.lst zs)) xs[i] (List.getElem_mem hi)
      refine g1' _ _ _ _ W3 _ fun σ2 H4 W4 ew => ⟨by rw [ew, wipe_wipe], ?_⟩
      rw [wipe_wipe] at ew
      dsimp only [tYes]
      rw [if_pos rfl]
      refine g2 _ σ2 H4 W4 _ fun J1 H5 T2 W5 hw1 => ?_
      let in_ : Nat → List PyData := fun j => acc i ++ (((ys xs[i]).take j).map (fb xs[i])).map enc
      have inl : ∀ j, j ≤ (ys xs[i]).length → (in_ j).length ≤ (acc (i + 1)).length := fun j hj => by
        rw [hacc i _ (List.getElem?_eq_getElem hi)]
        show (_ ++ _ : List PyData).length ≤ (_ ++ _ : List PyData).length
        simp only [List.length_append, List.length_map, List.length_take]
        omega
      obtain ⟨hz5, W5u⟩ := W5.unpin hB nM
      have W5h : Wd (c.hidden D) (T2 ++ (T1 ++ T)) H5 (L2.wipe σ2 vs1) ρa := (W5u.tmps fun p hp => by
        simp only [List.mem_append] at hp ⊢
        rcases hp with hp | hp | hp
        · exact .inl hp
        · exact .inr (.inl hp)
        · exact .inr (.inr (.inr hp))).wipe hno
      have dz5 : DzAll c.K (hide (hid (c.hidden D) ρa) H5) zs (acc i) := Wd.allOf (T := T2 ++ (T1 ++ T)) lx (W5u.tmps fun p hp => by
        simp only [List.mem_append] at hp ⊢
        rcases hp with hp | hp | hp | hp
        · exact .inr (.inr (.inl hp))
        · exact .inl hp
        · exact .inr (.inl hp)
        · exact .inr (.inr (.inr hp)))
      refine ⟨fun j k H6 => j + k = (ys xs[i]).length ∧ Wd (c.hidden D) (T2 ++ (T1 ++ T)) H6 (L2.wipe σ2 vs1) ρa ∧ MoOk c.K (D :: hid c ρa) H6 D (.lst (in_ j)), ⟨(ys xs[i]).length, by omega, W5h, zs, hz5, by show DzAll _ _ _ (acc i ++ []); rw [List.append_nil]; exact dz5⟩, fun j k H6 ⟨hk, W6, mo6⟩ => ?_⟩
      by_cases hj : j < (ys xs[i]).length
      · obtain ⟨us, hus, dus⟩ := mo6
        have lu := dpa_length dus
        have lj := inl j (by omega)
        have lj1 := inl (j + 1) (by omega)
        have W6a : Wd (c.at (D :: c.S0) (upd c.B D (.lst us))) (T2 ++ (T1 ++ T)) H6 (L2.wipe σ2 vs1) ρa := W6.pin hus hB hsub nS
        have W6c : Wd (c.at (D :: c.S0) (upd c.B D (.lst us))) (T2 ++ (us.zip (in_ j) ++ (T1 ++ T))) H6 (L2.wipe σ2 vs1) ρa := (W6a.pushAll dus).tmps fun p hp => by
          simp only [List.mem_append] at hp ⊢
          rcases hp with hp | hp | hp
          · exact .inr (.inl hp)
          · exact .inl hp
          · exact .inr (.inr hp)
        have hwk1 := hw1 (c.at (D :: c.S0) (upd c.B D (.lst us))) _ _ _ _ rfl W6c
        have hj' : j < ((ys xs[i]).map (eb xs[i])).length := by rw [List.length_map]; exact hj
        refine .inr ⟨(hwk1.1 j hj').1, fun H7 => Wd (c.hidden D) (T2 ++ (T1 ++ T)) H7 (L2.wipe σ2 vs1) ρa ∧ MoOk c.K (D :: hid c ρa) H7 D (.lst (in_ (j + 1))), fun H7 h7 => ⟨k - 1, by omega, by omega, h7.1, h7.2⟩, fun x H7 hy => ?_⟩
        obtain ⟨d, hd, W7⟩ := (hwk1.1 j hj').2 x H7 hy
        rw [List.getElem?_map, List.getElem?_eq_getElem hj] at hd
        have hd : eb xs[i] (ys xs[i])[j] = d := Option.some.inj hd
        subst hd
        obtain ⟨ρb, hwp1, k1, k2⟩ := g3 (D :: c.S0) (upd c.B D (.lst us)) (ys xs[i])[j] (List.getElem_mem hj)
        refine k1 _ _ _ _ W7 _ fun σ3 H8 W8 ew1 => ⟨by rw [ew1, wipe_wipe], ?_⟩
        rw [wipe_wipe] at ew1
        dsimp only [tYes]
        rw [if_pos rfl]
        refine k2 _ σ3 H8 W8 _ fun y H9 W9 => ?_
        have W10 := (hwp1 ▸ W9.wipeS vs1 : Wd _ _ _ _ ρa)
        rw [ew1] at W10
        have e1 : in_ (j + 1) = in_ j ++ [enc (fb xs[i] (ys xs[i])[j])] := by
          show acc i ++ (((ys xs[i]).take (j + 1)).map (fb xs[i])).map enc = _
          rw [List.take_add_one, List.getElem?_eq_getElem hj, List.map_append, List.map_append, ← List.append_assoc]; rfl
        obtain ⟨h9, W11, mo11⟩ := grow1 (S := c.S0) (T := T2 ++ (T1 ++ T)) hB nM nS hsub lu (W10.tmps fun p hp => by
          simp only [List.mem_append, List.mem_cons] at hp ⊢
          rcases hp with hp | hp | hp | hp | hp
          · exact .inl hp
          · exact .inr (.inr (.inl hp))
          · exact .inr (.inl hp)
          · exact .inr (.inr (.inr (.inl hp)))
          · exact .inr (.inr (.inr (.inr hp))))
        have := accl (i + 1)
        exact ⟨us, h9, Nat.lt_of_lt_of_le (show us.length < 100001 by omega) (by decide), W11, e1 ▸ mo11⟩
      · have ej : j = (ys xs[i]).length := by omega
        subst ej
        refine .inl ⟨(hw1 (c.hidden D) (T1 ++ T) (L2.wipe σ2 vs1) H6 ρa rfl W6).2 _ (by rw [List.length_map]; exact Nat.le_refl _), ?_⟩
        have W7 := (hwp ▸ W6.wipeS vs : Wd _ _ _ _ ρ1)
        rw [wipe_in hv1, ew] at W7
        obtain ⟨us, hus, dus⟩ := mo6
        have e3 : in_ (ys xs[i]).length = acc (i + 1) := by
          rw [hacc i _ (List.getElem?_eq_getElem hi)]
          show acc i ++ (((ys xs[i]).take (ys xs[i]).length).map (fb xs[i])).map enc = _
          rw [List.take_length]
        have a2 : Wd (c.hidden D) (us.zip (in_ (ys xs[i]).length) ++ (T2 ++ (T1 ++ T))) H6 (L2.wipe σ2 vs1) ρa := W6.pushAll dus
        have W8 := (hwp ▸ a2.wipeS vs : Wd _ _ _ _ ρ1)
        rw [wipe_in hv1, ew] at W8
        exact ⟨W7.tmps fun p hp => List.mem_append_right _ hp, us, hus, e3 ▸ Wd.allOf (dpa_length dus) W8⟩
    · have ei : i = xs.length := by omega
      subst ei
      refine .inl ⟨(hw (c.hidden D) T (L2.wipe σ vs) H2 ρ1 rfl W2).2 _ (by rw [List.length_map]; exact Nat.le_refl _), ?_⟩
      have W4 : Wd (c.hidden D) T H2 (L2.wipe σ vs) ρ1 := W2.tmps fun p hp => List.mem_append_right _ hp
      have e : acc xs.length = (xs.flatMap fun x => (ys x).map (fb x)).map enc := by show ((xs.take xs.length).flatMap fun x => (ys x).map (fb x)).map enc = _; rw [List.take_length]
      exact q D H2 hB (eP W2) (e ▸ mo) (W4.unwipe hvs)
/-! a, b, .. = a list -/
theorem eg_lst {gs : TGs} {ds : List PyData} {n : Nat} {ws : List Nat} (h : Egs c gs ds ρ ρ1 ws) (hn : ds.length = n := by rfl) : Eg c (gUnl c.K n gs) (.hard (.list ds)) ρ ρ1 ws := fun T σ H v W Q q => by
  obtain ⟨a, xs, rfl, hs, h2⟩ := dp_lst (Wd.dp W)
  exact ⟨a, xs, rfl, ex_l (hide_ex _ _) hs, by rw [dpa_length h2, hn], h T σ H xs (Wd.pop W) h2 Q q⟩
end
end Nz

namespace Nz
open PySem PySem.Spec PyProof.Rows L2 RZ
/-! data that may be laid, is not deep, is plain -/
class ShD {α : Type} (f : α → PyData) (n : outParam Nat) : Prop where
  lay : ∀ a, PyData.canLay0 (f a) = true
  dep : ∀ a, (f a).depth ≤ n
  pl : ∀ a, (f a).plain = true
instance : ShD PyData.int 0 := ⟨fun _ => rfl, fun _ => Nat.le_refl _, fun _ => rfl⟩
theorem shd_all {α : Type} {f : α → PyData} {n : Nat} [ShD f n] : ∀ l : List α, PyData.canLayAll0 (l.map f) = true ∧ PyData.depthAll (l.map f) ≤ n ∧ PyData.plainAll (l.map f) = true
  | [] => ⟨rfl, Nat.zero_le _, rfl⟩
  | a :: l => by
    obtain ⟨h1, h2, h3⟩ := shd_all (f := f) l
    have h4 := ShD.dep (f := f) a
    refine ⟨?_, ?_, ?_⟩
    · show PyData.canLayAll0 (f a :: l.map f) = true
      rw [PyData.canLayAll0, h1, ShD.lay a]; rfl
    · show PyData.depthAll (f a :: l.map f) ≤ n
      rw [PyData.depthAll]; omega
    · show PyData.plainAll (f a :: l.map f) = true
      rw [PyData.plainAll, h3, ShD.pl a]; rfl
instance {α : Type} {f : α → PyData} {n : Nat} [ShD f n] : ShD (eT f) (n + 1) := ⟨fun a => by show PyData.canLay0 (.tuple (a.map f)) = true; rw [PyData.canLay0]; exact (shd_all a).1,
  fun a => by show (PyData.tuple (a.map f)).depth ≤ _; rw [PyData.depth]; have := (shd_all (f := f) a).2.1; omega, fun a => by show (PyData.tuple (a.map f)).plain = true; rw [PyData.plain]; exact (shd_all a).2.2⟩
instance {α : Type} {f : α → PyData} {n : Nat} [ShD f n] : ShD (eL f) (n + 1) := ⟨fun a => by show PyData.canLay0 (.list (a.map f)) = true; rw [PyData.canLay0]; exact (shd_all a).1,
  fun a => by show (PyData.list (a.map f)).depth ≤ _; rw [PyData.depth]; have := (shd_all (f := f) a).2.1; omega, fun a => by show (PyData.list (a.map f)).plain = true; rw [PyData.plain]; exact (shd_all a).2.2⟩
instance {α β : Type} {f : α → PyData} {g : β → PyData} {n m : Nat} [ShD f n] [ShD g m] : ShD (eP f g) (n + m + 1) := ⟨fun p => by
    show PyData.canLay0 (.tuple [f p.1, g p.2]) = true
    rw [PyData.canLay0, PyData.canLayAll0, PyData.canLayAll0, PyData.canLayAll0, ShD.lay p.1, ShD.lay p.2]; rfl,
  fun p => by
    show (PyData.tuple [f p.1, g p.2]).depth ≤ _
    rw [PyData.depth, PyData.depthAll, PyData.depthAll, PyData.depthAll]
    have := ShD.dep (f := f) p.1
    have := ShD.dep (f := g) p.2
    omega,
  fun p => by
    show (PyData.tuple [f p.1, g p.2]).plain = true
    rw [PyData.plain, PyData.plainAll, PyData.plainAll, PyData.plainAll, ShD.pl p.1, ShD.pl p.2]; rfl⟩
theorem sh_of {α : Type} {f : α → PyData} {n : Nat} [ShD f n] (a : α) (h : n ≤ 50 := by decide) : SeqAt.shaped (f a) = true := by
  unfold SeqAt.shaped
  rw [ShD.lay a]
  have := ShD.dep (f := f) a
  exact decide_eq_true (by omega)
theorem dep_of {α : Type} {f : α → PyData} {n : Nat} [ShD f n] (a : α) (h : n ≤ 50 := by decide) : (f a).depth ≤ 50 := Nat.le_trans (ShD.dep a) h
theorem pl_of {α : Type} {f : α → PyData} {n : Nat} [ShD f n] (a : α) : (f a).plain = true := ShD.pl a
end Nz

/-! sorted(a tuple of data) -/
namespace PySem.W
open PySem PySem.Calls PyProof.Rows
section
variable {prog : Program} {w : World} {A : Around} {E : Value → Shared → Prop} {s : Shared} {β : Type} {vs : List Value} {bs : List β} {enc : β → PyData} {R : Value → β → Prop}
theorem collect_tupN {t : Addr} {us : List Value} {Q : List Value → Shared → Prop} (hT : s.heap.IsTuple t us.toArray) (few : us.length ≤ sizeLine)
    (k : Q us { s with heap := (s.heap.push (seqObj "list" #[] 0)).update s.heap.objs.size (Obj.mapSeq (· ++ us.toArray)) }) :
    wpAny (model prog w) A (collect (.ref t)) Q E s := by
  obtain ⟨ob, hob, hcl, m, hdat⟩ := id hT
  unfold collect
  refine wpAny_bind (wpAny_runValue (codeAny_builtin entry_proto_collect' ?z)); case z =>
  show wpAny _ _ (do again (.builtin "list.__iadd__" ⟨[← newList [], .ref t], []⟩)) _ _ s
  refine wpAny_bind (wpAny_newList (wpAny_pure ⟨Code.quiet_builtin _ (by decide +kernel), codeAny_builtin entry_list_iadd' ?y⟩)); case y =>
  show wpAny _ _ (Builtin.List.listExtendWith (.ref s.heap.objs.size) (.ref t) (.ref s.heap.objs.size)) _ _ { s with heap := s.heap.push (seqObj "list" #[] 0) }
  unfold Builtin.List.listExtendWith
  have hob2 : (s.heap.push (seqObj "list" #[] 0)).get? t = some ob := Heap.get?_push_of_some _ hob
  refine wpAny_bind (wpAny_typeOf (T := "tuple") ⟨ob, hob2, hcl⟩ ?x); case x =>
  have e1 : (Value.type "tuple" == Value.type "tuple") = true := by rfl
  rw [if_pos (by rw [e1]; simp)]
  refine wpAny_bind (listItems_at hob2 hdat ?_); refine wpAny_bind (listItems_at (n := 0) (xs := #[]) (Heap.get?_push_size _ rfl) rfl ?_)
  rw [if_neg (by simp)]
  refine wpAny_bind (listUpdate_at (n := 0) (xs := #[]) (Heap.get?_push_size _ rfl) rfl ?_ (Nat.zero_le _) (by show (#[] ++ us.toArray).size ≤ sizeLine + 1; simp only [Array.size_append, List.size_toArray, List.length_nil]; omega))
  refine wpAny_pure ?_
  show wpAny (model prog w) A (do
      let o ← load s.heap.objs.size
      match o.data with
      | .seq xs _ => pure xs.toList
      | _ => unsupported "internal:collect") Q E { s with heap := (s.heap.push (seqObj "list" #[] 0)).update s.heap.objs.size (Obj.mapSeq (· ++ us.toArray)) }
  refine wpAny_bind (wpAny_load (get?_update_seq (Heap.get?_push_size _ rfl) _) ?_)
  show wpAny _ _ (pure ((#[] : Array Value) ++ us.toArray).toList) Q E _
  have e2 : ((#[] : Array Value) ++ us.toArray).toList = us := by simp
  rw [e2]
  exact wpAny_pure k
theorem sorted_of_sortT {t : Addr} {us : List Value} {Q : Value → Shared → Prop} (hT : s.heap.IsTuple t us.toArray) (hL : us.length ≤ sizeLine)
    (body : ∀ E2 : Value → Shared → Prop, wpAny (model prog w) A.in1.in1 (Builtin.«list.sort» ⟨[.ref (s.heap.objs.size + 1)], []⟩) (fun f s2 => f = .done (.ret .none) ∧ Q (.ref (s.heap.objs.size + 1)) s2) E2 { s with heap := copyHeap s.heap us }) :
    wpAny (model prog w) A (call (.builtin "sorted") [.ref t]) Q E s := by
  refine call_function_entry_kw kind_sorted plain_sorted entry_sorted (args_sorted1 _) ?z; case z =>
  unfold Builtin.«sorted»
  refine wpAny_bind (m := checkCount "sorted" 1 1 _) (wpAny_pure ?y); case y =>
  refine wpAny_bind (collect_tupN hT hL ?_); refine wpAny_bind (wpAny_newList ?_ hL)
  have e1 : ((s.heap.push (seqObj "list" #[] 0)).update s.heap.objs.size (Obj.mapSeq (· ++ us.toArray))).objs.size = s.heap.objs.size + 1 := by rw [Heap.size_update, size_push']
  show wpAny _ _ _ _ _ { s with heap := copyHeap s.heap us }
  rw [e1]
  refine wpAny_bind (wpAny_holding (wpAny_call_entry_kw slot_list_sort ⟨_, copyHeap_at s.heap us, rfl⟩ entry_list_sort ?x (args_list_sort _))); case x =>
  show wpAny (model prog w) A.in1.in1 (Builtin.«list.sort» ⟨[.ref (s.heap.objs.size + 1)], []⟩) _ _ _
  refine wpAny_mono (body _) (fun f s2 hf => ?_) fun _ _ e => e
  obtain ⟨rfl, hq⟩ := hf
  exact ⟨_, rfl, wpAny_pure ⟨_, rfl, hq⟩⟩
theorem sorted_dataT {t : Addr} {Q : Value → Shared → Prop} (hT : s.heap.IsTuple t vs.toArray) (e : EachIs R vs bs) (er : EachIs (fun v b => ∃ as, Reads s.heap v (enc b) as) vs bs) (hal : AllAlike (bs.map enc)) (hk : Sortable (bs.map enc)) (hL : bs.length ≤ sizeLine)
    (hu : ∀ b, b ∈ bs → A.units + 2 + (enc b).depth < cLine) (k : ∀ out, out.length = bs.length → EachIs R out (bs.mergeSort (dataLe false enc)) → Q (.ref (s.heap.objs.size + 1)) { s with heap := sortedAll s.heap vs (List.toArray out) }) :
    wpAny (model prog w) A (call (.builtin "sorted") [.ref t]) Q E s := by
  have er2 : EachIs (fun v b => ∃ as, Reads (sortingHeap (copyHeap s.heap vs) (s.heap.objs.size + 1) vs) v (enc b) as) vs bs := er.mono fun _ _ ⟨as, r⟩ => ⟨as, PyProof.Rows.Reads.keeps (fun _ _ => sorting_copy_old) r⟩
  have S := SortsAt.data (prog := prog) (w := w) (A := A.in1.in1) (s := { s with heap := sortingHeap (copyHeap s.heap vs) (s.heap.objs.size + 1) vs }) (each_map (R := fun v d => ∃ as, Reads (sortingHeap (copyHeap s.heap vs) (s.heap.objs.size + 1) vs) v d as) enc er2) hal hk (bound_map hu)
  have hv : vs.length ≤ sizeLine := by rw [e.length]; exact hL
  refine sorted_of_sortT hT hv fun _ => list_sort_vals (s := { s with heap := copyHeap s.heap vs }) (copyHeap_at s.heap vs) S hv ⟨rfl, ?_⟩
  exact k _ (by rw [sortVals_length false rfl]; exact e.length) (sortVals_data false e er2 hal)
end
end PySem.W
namespace Nz
open PySem PySem.Spec PyProof.Rows L2 RZ PySem.W
section
variable {β : Type}
def rSortXT (K : PySem.W.Frag) (enc : β → PyData) : List V → Hp → VK → Prop := fun vs H Q => ∃ (a : Addr) (xs : List V) (bs : List β) (R : V → β → Prop), vs = [.ref a] ∧ SqT K H a xs ∧ EachIs R xs bs ∧ (∀ v b, R v b → Dp K H v (enc b)) ∧
  AllAlike (bs.map enc) ∧ Sortable (bs.map enc) ∧ (∀ b ∈ bs, (enc b).depth ≤ 50) ∧ ∀ (ys : List V) (p : Addr), EachIs R ys (bs.mergeSort (dataLe false enc)) → H p = none → Q (.ref p) (upd H p (.lst ys))
theorem cr_sortedXT {X : Cx} {enc : β → PyData} (hu : X.A.units + 64 < cLine) : CallR X (.builtin "sorted") (rSortXT X.K enc) := by
  intro pins s σ H vs us Q I r h
  obtain ⟨a, xs, bs, R, rfl, hs, he, hR, hal, hk, hd, q⟩ := h
  obtain ⟨its, rv, hl, hz⟩ := I.tuple hs
  rw [Vals.ref1 r]
  obtain ⟨e1, e2⟩ := each_vals I hR rv he
  have hlen := he.length
  refine sorted_dataT hl e1 e2 hal hk (by rw [← hlen]; exact hz) (fun b hb => by have := hd b hb; omega) fun out hl2 ho => ?_
  obtain ⟨ys, r2, e3⟩ := each_out ho
  obtain ⟨ep, he'⟩ := PyProof.Rows.sortedAll_at s.heap its out.toArray
  exact ⟨.ref _, upd H (s.heap.objs.size + 1) (.lst ys), I.laid (t' := s.toks) (fun _ _ => PyProof.Rows.sortedAll_old) (Nat.le_succ _) ⟨by rw [r2.length, hl2, ← hlen]; exact hz, out, ep, r2, he'⟩, rfl, q ys _ e3 (I.hok.fresh (Nat.le_succ _))⟩
end
section
variable {c : Cz} {ρ ρ1 ρ2 ρ3 : List Sl} {te : TE} {β : Type} {enc : β → PyData}
theorem el_sortXT {l : List β} (h : Ed c ρ te (.tuple (l.map enc)) ρ1) (hal : AllAlike (l.map enc)) (hk : Sortable (l.map enc)) (hd : ∀ b ∈ l, (enc b).depth ≤ 50) : EdL c ρ (tCB (rSortXT c.K enc) (tCons te tNil)) ((sortX enc l).map enc) ρ1 := fun T σ H W Q q => h T σ H W _ fun v H1 W1 => by
  obtain ⟨a, xs, rfl, hs, h2⟩ := dp_tup W1.dp
  refine ⟨a, xs, l, fun v b => Dz c.K (hide (hid c ρ1) H1) v (enc b), rfl, (ex_p (hide_ex _ _) hs).sq, each_dz h2, fun v b hv => dz_dp _ _ (dpm (hide_ex _ _) hv), hal, hk, hd, fun ys p he hp => ?_⟩
  obtain ⟨x1, x2, x3, x4⟩ := el_new W1.pop (dz_each he) hp
  exact q p _ x1 x2 x3 x4
end
end Nz

/-! x += a new list -/
namespace Nz
open PySem PySem.Spec PyProof.Rows L2 RZ
theorem pt_truthK {X : Cx} {K : PySem.W.Frag} {a : Expr} {ta : TE} (ha : PE X a ta) (he : ∀ whole, isTrue a X.env whole = (do let v ← whole; standAt a.pos; holding [v] (truthy v))) (hK : X.K = K := by rfl) : PT X a (fun σ H Q => ta σ H fun x H' => ∃ k, TruV K x H' k ∧ Q k H') := by
  subst hK
  exact pt_truth ha he
section
variable {c : Cz} {ρ ρ1 ρ2 ρ3 : List Sl} {ta tb te tx : TE} {t u : TT} {d d1 d2 : PyData} {T : Tm} {H H' : Hp} {σ : L2.St}
variable {nx bk ct : L2.St → Hp → Prop} {rt : VK}
theorem set_sameA {α : Type} {l : List α} {i : Nat} {x : α} (h : l[i]? = some x) : l.set i x = l := by
  apply List.ext_getElem?
  intro k
  by_cases q : i = k
  · rw [← q, List.getElem?_set_self (List.getElem?_eq_some_iff.mp h).1, h]
  · rw [List.getElem?_set_ne q]
theorem s_augL {i : Nat} {l : Bool} {a : Addr} {ds es : List PyData} (h0 : ρ[i]? = some (.mu l a (.lst ds))) (h : EdL c ρ te es ρ1) (ha : ρ1[i]? = some (.mu l a (.lst ds))) (hz : ds.length + es.length ≤ 100000)
    (k : Sk c T (ρ1.set i (.mu l a (.lst (ds ++ es)))) nx) : Ss c T ρ (tAug i te rExt2) ⟨nx, rt, bk, ct⟩ := fun σ H W => by
  obtain ⟨e0, _, _⟩ := W.ok i _ h0
  refine ⟨.ref a, e0, h T σ H W _ fun p H1 hB hn hm W0 => ?_⟩
  have W1 := W0.unhide W.sub
  obtain ⟨zs, g1, g2⟩ := hm
  obtain ⟨_, _, xs, e4, e5⟩ := W1.ok i _ ha
  have hm : a ∈ hid c ρ1 := List.mem_append_right _ (mem_muts.mpr ⟨i, l, _, ha⟩)
  have e9 : Ex (hide (p :: hid c ρ1) H1) (hide (hid c ρ1) H1) := hide_mono fun b o n z => ⟨fun m => n (List.mem_cons_of_mem _ m), z⟩
  refine ⟨a, p, xs, zs, rfl, rfl, e4, g1, by rw [dpa_length e5, dpa_length g2]; exact Nat.le_trans hz (by decide), ?_⟩
  show nx (List.set σ i (some (.ref a))) _
  rw [show List.set σ i (some (.ref a)) = σ from set_sameA e0]
  refine k _ _ (W1.updM ha ⟨xs ++ zs, upd_same, ?_⟩)
  have e6 : Ex (hide (hid c ρ1) H1) (hide (hid c ρ1) (upd H1 a (.lst (xs ++ zs)))) := upd_hid hm
  exact dpam e6 (dpa_append e5 (dpam e9 g2))
end
end Nz

/-! max of a number and what is drawn; a list cut where a draw says; two at once, both new lists that change -/
namespace Nz
open PySem PySem.Spec PyProof.Rows L2 RZ
section
variable {c : Cz} {ρ ρ1 ρ2 ρ3 : List Sl} {ta tb te tx : TE} {T : Tm} {H H' : Hp} {σ : L2.St}
variable {nx bk ct : L2.St → Hp → Prop} {rt : VK}
theorem beq_ext {α : Type} (i1 i2 : BEq α) (h : ∀ a b, @BEq.beq α i1 a b = @BEq.beq α i2 a b) : i1 = i2 := by
  cases i1
  cases i2
  congr
  funext a b
  exact h a b
theorem er_eq {α : Type} (d : DecidableEq α) [i2 : BEq α] [LawfulBEq α] (x : α) (l : List α) : @List.erase α (@instBEqOfDecidableEq α d) l x = @List.erase α i2 l x := by
  have e : @instBEqOfDecidableEq α d = i2 := beq_ext _ _ fun a b => by
    show @decide (a = b) (d a b) = @BEq.beq α i2 a b
    by_cases e : a = b
    · rw [@decide_eq_true _ (d a b) e, e]; exact (@beq_self_eq_true α i2 _ b).symm
    · rw [@decide_eq_false _ (d a b) e]; exact (@beq_eq_false_iff_ne α i2 _ a b).mpr e |>.symm
  rw [e]
theorem ew_max1 {a : Int} {P : Int → Prop} (h : Ew c ρ te PyData.int P ρ1) : Ew c ρ (tCB (rMaxT c.K) (tCons (tLst (tCons (tC (.int a)) (tCons te tNil))) tNil)) PyData.int (fun z => ∃ m, P m ∧ z = maxOf [a, m]) ρ1 :=
  ew_1 (G := fun te => tCB (rMaxT c.K) (tCons (tLst (tCons (tC (.int a)) (tCons te tNil))) tNil)) (k := fun v _ H Q => ([V.int a, v] : List V).length ≤ sizeLine ∧ ∀ p, H p = none → rMaxT c.K [.ref p] (upd H p (.lst [V.int a, v])) Q) (F := fun m => maxOf [a, m]) (fun _ _ _ _ => rfl) h
    fun m _ ρ ta hm => ed_maxL (l := [a, m]) (ed_L (el_lst (ds := [a, m].map PyData.int) (ea_cons ed_int (ea_cons hm ea_nil)))) (by simp)
theorem ewl_cutM {α : Type} {f : α → PyData} {xs : List α} {P : Int → Prop} {i : Nat} {l : Bool} {a : Addr} (h0 : ∃ l o, ρ[i]? = some (.mu l a o)) (h : Ew c ρ te PyData.int P ρ1) (ha : ρ1[i]? = some (.mu l a (.lst (xs.map f)))) :
    EwL c ρ (tSl (rSlL c.K) (tVar i) tNoPart (tPart te)) (fun z : List α => z.map f) (fun z => ∃ m, P m ∧ z = cutX xs none (some m)) ρ1 := fun T σ H W Q q => by
  obtain ⟨l0, o0, h0⟩ := h0
  refine ⟨.ref a, (W.ok i _ h0).1, h T σ H W _ fun m v H1 pm W1 => ⟨m, dp_int W1.dp, ?_⟩⟩
  obtain ⟨_, _, zs, e4, e5⟩ := W1.ok i _ ha
  refine ⟨a, zs, rfl, sq_of e4, fun p hp => ?_⟩
  obtain ⟨x1, x2, x3, x4⟩ := el_new W1.pop (cut_dp e5 none (some m)) hp
  rw [cutD_map] at x3
  exact q _ p _ ⟨m, pm, rfl⟩ x1 x2 x3 x4
theorem s_parM2 {i j : Nat} {ds es : List PyData} (h : EdL c ρ ta ds ρ1) (h2 : ∀ S B, EdL (c.at S B) ρ1 tb es ρ1) (hij : i ≠ j) (k : ∀ p q, Sk c T ((ρ1.set i (.mu true p (.lst ds))).set j (.mu true q (.lst es))) nx) : Ss c T ρ (tPar i j (tCons ta (tCons tb tNil))) ⟨nx, rt, bk, ct⟩ := fun σ H W =>
  h T σ H W _ fun p H1 hB hn mo W1 => by
    obtain ⟨xs, hx, dx⟩ := mo
    have hs := W.sub
    have nS : p ∉ c.S0 := fun m => hn (List.mem_append_left _ m)
    have nM : p ∉ c.M := fun m => nS (hs p m)
    have lx := dpa_length dx
    have W2 : Wd (c.at (p :: c.S0) (upd c.B p (.lst xs))) (xs.zip ds ++ T) H1 σ ρ1 := (W1.pin hx hB hs nS).pushAll dx
    refine h2 _ _ _ σ H1 W2 _ fun p2 H2 B2 n2 mo2 W3 => ?_
    have ne : p2 ≠ p := fun e => by
      subst e
      exact n2 (List.mem_append_left _ (List.mem_cons_self ..))
    have B2' : c.B p2 = none := by
      have B2 : upd c.B p _ p2 = none := B2
      rw [upd_ne ne] at B2; exact B2
    have n2' : p2 ∉ hid c ρ1 := fun m => by
      rcases List.mem_append.mp m with m | m
      · exact n2 (List.mem_append_left _ (List.mem_cons_of_mem _ m))
      · exact n2 (List.mem_append_right _ m)
    have W4 : Wd ((c.hidden p2).at (p :: (c.hidden p2).S0) (upd (c.hidden p2).B p (.lst xs))) (xs.zip ds ++ T) H2 σ ρ1 := Wd.reS (S := p2 :: p :: c.S0) W3 fun x => by
      simp only [List.mem_cons]
      exact ⟨fun h => h.elim (fun e => .inr (.inl e)) (fun h => h.elim .inl (fun h => .inr (.inr h))), fun h => h.elim (fun e => .inr (.inl e)) (fun h => h.elim .inl (fun h => .inr (.inr h)))⟩
    obtain ⟨hp2, W5⟩ := W4.unpin (c := c.hidden p2) hB nM
    have nh : p ∉ hid (c.hidden p2) ρ1 := fun m => by
      rcases List.mem_append.mp m with m | m
      · rcases List.mem_cons.mp m with m | m
        · exact ne m.symm
        · exact nS m
      · exact hn (List.mem_append_right _ m)
    have dx2 : DzAll c.K (hide (hid ((c.hidden p2).hidden p) ρ1) H2) xs ds := Wd.allOf (T := T) lx W5
    have hs2 : ∀ a ∈ (c.hidden p2).M, a ∈ (c.hidden p2).S0 := fun b m => List.mem_cons_of_mem _ (hs b m)
    have W6 := W5.setM (c := c.hidden p2) hs2 i (l := true) (o := .lst ds) (by rw [if_pos rfl]; exact hB) nh ⟨xs, hp2, dx2⟩
    have n3 : p2 ∉ hid c (ρ1.set i (.mu true p (.lst ds))) := fun m => by
      rcases List.mem_append.mp m with m | m
      · exact n2' (List.mem_append_left _ m)
      · obtain ⟨r, l, u, e⟩ := mem_muts.mp m
        rcases get_set e with ⟨_, _, e⟩ | ⟨_, e⟩
        · cases e; exact ne rfl
        · exact n2' (List.mem_append_right _ (mem_muts.mpr ⟨r, l, u, e⟩))
    obtain ⟨zs, hz, dz⟩ := mo2
    have ez : Ex (hide (p2 :: hid (c.at (p :: c.S0) (upd c.B p (.lst xs))) ρ1) H2) (hide (p2 :: hid c (ρ1.set i (.mu true p (.lst ds)))) H2) := hide_mono fun b o n e => ⟨fun m => by
      rcases List.mem_cons.mp m with m | m
      · exact n (by rw [m]; exact List.mem_cons_self ..)
      · rcases List.mem_append.mp m with m | m
        · exact n (List.mem_cons_of_mem _ (List.mem_append_left _ (List.mem_cons_of_mem _ m)))
        · obtain ⟨r, l, u, e⟩ := mem_muts.mp m
          rcases get_set e with ⟨_, _, e⟩ | ⟨_, e⟩
          · cases e; exact n (List.mem_cons_of_mem _ (List.mem_append_left _ (List.mem_cons_self ..)))
          · exact n (List.mem_cons_of_mem _ (List.mem_append_right _ (mem_muts.mpr ⟨r, l, u, e⟩))), e⟩
    have W7 := W6.setM (c := c) hs j (l := true) (o := .lst es) (by rw [if_pos rfl]; exact B2') n3 ⟨zs, hz, dpam ez dz⟩
    refine ⟨.ref p, .ref p2, rfl, ?_⟩
    exact k p p2 _ _ (W7.tmps fun q hq => List.mem_append_right _ hq)
end
end Nz

/-! a def called with nothing -/
namespace Nz
open PySem PySem.Spec PyProof.Rows L2
theorem pe_cl0 {X : Cx} {k : Nat} {x : Str} {ps : List Str} {sp : Sp} {p pos : Pos} (C : Cl X.prog X.w X.K X.mg X.base k x ps sp) (hr : Room k X.A) (hgd : X.A.guards = some []) (hg : Gl X x)
    (hdb : (x == ("__debug__" : Str)) = false := by decide) : PE X (.Call (.Name x p) [] [] pos) (tCall sp [] E0 tNil) := by
  obtain ⟨f, fd, F, hm, hk, hb⟩ := C.ex
  refine ⟨fun pins s σ H Q I h => ?_⟩
  apply wpAny_Call_Name_kw
  apply ld_glob I hg hm ?_ hdb
  exact PySem.W.callWith_K0 I.kIn hk (run_fnG (us := []) F hr hgd hb I .nil h)
end Nz

/-! an own exception over own classes over ValueError: __init__ says super().__init__(text); self.reason = reason -/
namespace Nz
open PySem PySem.Spec PyProof.Rows L2
section
variable {prog : Program} {w : World} {A : Around} {E : Value → Shared → Prop} {h : Heap} {g : Array GenState} {d : Drawn} {t : Nat} {os : OsState}
variable {nm q : Str} {C N : Addr} {bs bm : List Value} {hdct : Bool} {sn : List Str} {sub : List Value} {ab : Bool} {col : Option Bool} {dd : Option Addr} {k0 k1 k2 k3 k5 : Option Value}
theorem call_mw {u e t0 : Addr} {rest : List Value} {Q : Value → Shared → Prop}
    (hC : h.get? C = some (excClassObj nm q C N bs bm hdct sn sub ab col dd k0 k1 k2 k3 k5 "ValueError.__new__"))
    (he : h.get? e = some ({ cls := .ref C, dict := none, data := .fields #[.ref t0, .none, .none, .none, .bool false, .none] } : Obj))
    (hu : h.get? u = some (PySem.W.kxs_mw "ValueError.__init__" e)) (hrest : rest.length ≤ sizeLine)
    (hq : ∀ h' t1, (∀ b o, b ≠ e → h.get? b = some o → h'.get? b = some o) → h'.get? e = some ({ cls := .ref C, dict := none, data := .fields #[.ref t1, .none, .none, .none, .bool false, .none] } : Obj) → Q .none ⟨h', g, d, t, os⟩) :
    wpAny (model prog w) A (call (.ref u) rest) Q E ⟨h, g, d, t, os⟩ := by
  refine wpAny_call (codeAny_of_tree ?_)
  show wpAny _ A.in1 (callAny (.ref u) ⟨rest, []⟩) _ _ _
  simp only [callAny]
  refine wpAny_bind (wpAny_load hu ?_)
  simp only [PySem.W.kxs_mw, show (Value.type "method-wrapper" == Value.type "method" || Value.type "method-wrapper" == Value.type "builtin_function_or_method" || Value.type "method-wrapper" == Value.type "method-wrapper") = true by decide, if_true]
  refine PySem.W.KFB.if_so (by decide) ?_
  refine wpAny_bind (PySem.W.check_bound_init F.excBase_ValueError.toExcCallFacts hC he rfl ?_)
  refine wpAny_bind (wpAny_pure (wpAny_pure ?_))
  refine ⟨Code.quiet_builtin _ (by decide +kernel), codeAny_builtin F.excBase_ValueError.initEntry ?_⟩
  exact PySem.W.exc_init_tree (cls := .ref C) (t0 := t0) (dv := none) (c2 := .none) (c3 := .none) (b4 := .bool false) he hrest fun h' k e' _ => hq h' _ k e'
end

/-- the context of __init__'s body -/
def sxOf (P : Program) (w : World) (K : PySem.W.Frag) (mg : Str → Option Value) (base : Heap) (qual : Str) (scope : Scope) (f cda cc : Addr) (A : Around) (outer : List Env) (s : Shared) (H : Hp) : Cx where
  prog := P
  w := w
  K := K
  mg := mg
  base := base
  A := A.deeper (PySem.W.ksEnv qual scope s.heap.objs.size f (.ref cda) cc)
  N := ["self", "reason"]
  s_0 := s
  H_0 := H
  env := PySem.W.ksEnv qual scope s.heap.objs.size f (.ref cda) cc
  outer := outer
  stack := PySem.W.ksEnv qual scope s.heap.objs.size f (.ref cda) cc :: outer
  ex := []
  fn := fun _ => false
  calm := true
  pn := []
  xe := fun _ _ => False

/-- what __init__ of the class at C does: self.reason is there -/
def spInit (C : Addr) : Sp := fun vs H Q _ => ∃ (a : Addr) (x : Str), vs = [.ref a, .str x] ∧ x.length ≤ 1000 ∧ H a = some (exo a C none) ∧
  ∀ dx, H dx = none → dx ≠ a → Q .non (upd (upd H dx (exd dx [("reason", .str x)])) a (exo a C (some dx)))

/-- the scope of such an __init__ -/
structure InitScope (scope : Scope) : Prop where
  kind : scope.kind = .function
  co : scope.isCoroutine = false
  gen : scope.isGenerator = false
  cell : ∀ x ∈ scope.names, x.2 ≠ .cell
  free : ∀ x, scope.names.lookup x = some .free → x = ("__class__" : Str)
  self_ : scope.names.lookup ("self" : Str) = some .local
  reason_ : scope.names.lookup ("reason" : Str) = some .local
  super_ : scope.names.lookup ("super" : Str) = some .globalImplicit
  class_ : scope.names.lookup ("__class__" : Str) = some .free

structure InitFacts (P : Program) (K : PySem.W.Frag) (mg : Str → Option Value) (C f cda cc : Addr) (name qual : Str) (params : Arguments) (body : List Stmt) (scope : Scope) (fd : FuncData) : Prop where
  fn : ∃ (dV kV doc pm ct oc : Value) (an od : Option Addr) (osl : Array (Option Value)), fd = PySem.W.ksFn name qual params body scope dV kV doc pm an (.ref cda) ct cc ∧ K.lookup f = some ⟨oc, od, .func fd, osl⟩
  hcd : PySem.W.codeIn K (.ref cda) qual = true
  S : InitScope scope
  par : ∃ ar : Arg, (params.posonlyargs ++ params.args).head? = some ar ∧ ar.arg = ("self" : Str)
  code : ∃ (ccl : Value) (cdd : Option Addr) (vs : Array Value) (ccs : Array (Option Value)) (file : Str) (tf : Tok), K.lookup cda = some ⟨ccl, cdd, .fields vs, ccs⟩ ∧ vs[2]? = some (.str file tf) ∧ ((P.main.file : Str) == file) = true
  cell : ∃ (cl : Value) (cld : Option Addr) (csl : Array (Option Value)), K.lookup cc = some ⟨cl, cld, .cell (some (.ref C)), csl⟩
  cls : ∃ cd, PySem.W.clsIn K C = some cd
  sub : PySem.W.mroIn K C (.ref C) = some true
  sup : mg "super" = none
  top : (P.main.scope.names.lookup ("super" : Str)).isSome = false
  third : PySem.W.nsIn K cStatics "thirdparty.any" = some none
  init : PySem.W.ks_superIn K C C "__init__" = some (some (.builtin "ValueError.__init__"))
  ve : PySem.W.subIn K (.ref C) (.type "ValueError") = some true
  T : OexC K C
  noR : PySem.W.findIn K (.ref C) "reason" = some none

section
variable {P : Program} {w : World} {K : PySem.W.Frag} {mg : Str → Option Value} {base : Heap}
theorem inv_init {C f cda cc : Addr} {name qual : Str} {params : Arguments} {body : List Stmt} {scope : Scope} {fd : FuncData} (IF : InitFacts P K mg C f cda cc name qual params body scope fd) {A : Around} {outer : List Env} {s : Shared} {H : Hp} {h1 : Heap} {v0 v1 : V} {u0 u1 : Value}
    (hd : A.handled = none) (e0 : Env0 P w K mg base A outer s H) (r0 : RelV v0 u0) (r1 : RelV v1 u1)
    (hns : h1.Ns s.heap.objs.size (fun x => [(("self" : Str), u0), (("reason" : Str), u1)].reverse.lookup x)) (hk : ∀ b o, s.heap.get? b = some o → h1.get? b = some o) :
    Inv (sxOf P w K mg base qual scope f cda cc A outer s H) [] [some v0, some v1] H { s with heap := h1, toks := s.toks + 2 } := by
  obtain ⟨cl, cld, csl, hcell⟩ := IF.cell
  have hcb : base.get? cc = some ⟨cl, cld, .cell (some (.ref C)), csl⟩ := e0.mod.kin _ _ hcell
  have hcs := e0.bs _ _ hcb
  have look : ∀ x c, (sxOf P w K mg base qual scope f cda cc A outer s H).env.cells.lookup x = some c → x = ("__class__" : Str) ∧ c = cc := by
    intro x c h
    have h : [(("__class__" : Str), cc)].lookup x = some c := h
    by_cases e : x = ("__class__" : Str)
    · rw [e] at h
      simp at h
      exact ⟨e, h.symm⟩
    · rw [List.lookup_cons] at h
      have : (x == ("__class__" : Str)) = false := by simpa using e
      rw [this] at h
      cases h
  have noA : ∀ b : Addr, b ∉ (sxOf P w K mg base qual scope f cda cc A outer s H).ex := fun b z => absurd (show b ∈ ([] : List Addr) from z) (by simp)
  refine ⟨⟨e0.mod, IF.S.kind, rfl, rfl, Nat.le_refl _, fun y z c h1 h2 => ((look y c h1).1).trans ((look z c h2).1).symm, fun y hy => ?_, fun y c z => absurd z (by simp [sxOf]), fun _ => hd, Around.frames_deeper e0.frames, .inr ⟨rfl, rfl⟩, fun b z => absurd z (noA b), e0.bs, e0.bsz, fun b _ _ => noA b, fun b z => absurd z (noA b), e0.funs, e0.frf⟩,
    rfl, e0.bare, Un.kept hk, ⟨_, hns, fun i y v h1 h2 h3 => ?_⟩, fun y c h => ⟨some (.ref C), ⟨cl, cld, .cell (some (.ref C)), csl⟩, hk _ _ (by rw [(look y c h).2]; exact hcs.1), rfl⟩, e0.hok.fresh (Nat.le_refl _), fun y c h => by rw [(look y c h).2]; exact hcs.2, fun p hp => absurd (show p ∈ ([] : List (Addr × Obj)) from hp) (by simp), e0.hok.kept hk, rfl⟩
  · have hy : scope.names.lookup y = some .cell ∨ scope.names.lookup y = some .free := hy
    rcases hy with hy | hy
    · exact absurd rfl (IF.S.cell _ (PySem.mem_of_lookup hy))
    · refine ⟨cc, ?_⟩
      show [(("__class__" : Str), cc)].lookup y = some cc
      rw [IF.S.free _ hy]
      simp
  · match i, h1, h2 with
    | 0, h1, h2 =>
      have e1 : y = ("self" : Str) := (Option.some.inj h1).symm
      have e2 : v = v0 := (Option.some.inj (Option.some.inj h2)).symm
      subst e1; subst e2
      exact ⟨u0, r0, .inl ⟨IF.S.self_, by first | rfl | simp⟩⟩
    | 1, h1, h2 =>
      have e1 : y = ("reason" : Str) := (Option.some.inj h1).symm
      have e2 : v = v1 := (Option.some.inj (Option.some.inj h2)).symm
      subst e1; subst e2
      exact ⟨u1, r1, .inl ⟨IF.S.reason_, by simp⟩⟩
    | n + 2, h1, h2 => simp at h2
theorem len_app (a b : Str) : (a ++ b).length = a.length + b.length := by
  show (a ++ b).cps.size = a.cps.size + b.cps.size
  rw [PySem.Str.cps_append]
  exact Array.size_append
theorem fn_exc_init {CX : CXT} {k : Nat} {C f cda cc : Addr} {name qual : Str} {params : Arguments} {scope : Scope} {fd : FuncData} {p0 p1 p2 p3 p4 p5 p6 p7 p8 : Pos} {word : Str} {j1 : Nat} {q1 q2 q3 q4 : Pos}
    (IF : InitFacts P K mg C f cda cc name qual params
      [.Expr (.Call (.Attribute (.Call (.Name "super" p0) [] [] p1) "__init__" p2) [.JoinedStr [.Constant (.str word) j1 q1, .FormattedValue (.Name "reason" q2) (-1) none q3] q4] [] p3) p4, .Assign [.Attribute (.Name "self" p5) "reason" p6] (.Name "reason" p7) p8] scope fd)
    (hw : word.length ≤ 1000)
    (hsw : ∀ L : Addr, swapsWith (.Name "reason" p7) (some (.Attribute (.Name "self" p5) "reason" p6)) p8.line (PySem.W.ksEnv qual scope L f (.ref cda) cc) = pure false)
    (he : ∀ L : Addr, ∃ pl : Sem Bool, eval (.Call (.Attribute (.Call (.Name "super" p0) [] [] p1) "__init__" p2) [.JoinedStr [.Constant (.str word) j1 q1, .FormattedValue (.Name "reason" q2) (-1) none q3] q4] [] p3) (PySem.W.ksEnv qual scope L f (.ref cda) cc) = (do
      let ov ← attributeBase (.Call (.Name "super" p0) [] [] p1) "__init__" (PySem.W.ksEnv qual scope L f (.ref cda) cc) (eval (.Call (.Name "super" p0) [] [] p1) (PySem.W.ksEnv qual scope L f (.ref cda) cc))
      standAt p2.atName
      let (fz, first) ← holding [ov] (getMethod ov "__init__" pl)
      callWith p3 fz first (backTo p3 (starEach [.JoinedStr [.Constant (.str word) j1 q1, .FormattedValue (.Name "reason" q2) (-1) none q3] q4] (PySem.W.ksEnv qual scope L f (.ref cda) cc))) [])) :
    FnOk P w K mg base CX (k + 1) f fd ["self", "reason"] (spInit C) := by
  refine ⟨fun vs H Q E z => ?_, fun A outer s H args us vs Q E hr e0 hb r hsp => ?_⟩
  · obtain ⟨a, x, rfl, _⟩ := z
    rfl
  obtain ⟨dV, kV, doc, pm, ct, oc, an, od, osl, rfl, lk⟩ := IF.fn
  obtain ⟨a, x, rfl, hx, ha, hq⟩ := hsp
  obtain ⟨ar, har, harn⟩ := IF.par
  obtain ⟨ccl, cdd, vs2, ccs, file, tf, hcode, hvs, hfile⟩ := IF.code
  obtain ⟨cl, cld, csl, hcell⟩ := IF.cell
  obtain ⟨cd, hclsC⟩ := IF.cls
  have KX : K.In s.heap := e0.mod.kin.keeps fun b o e => (e0.bs b o e).1
  have lim : s.heap.NoLimit := e0.mod.nolimit.keeps fun b o e => (e0.bs b o e).1
  obtain ⟨u0, us1, rfl, r0, rr1⟩ : ∃ u0 us1, us = u0 :: us1 ∧ RelV (V.ref a) u0 ∧ Vals [V.str x] us1 := by
    cases r with
    | cons a b => exact ⟨_, _, rfl, a, b⟩
  obtain ⟨u1, rfl, r1⟩ : ∃ u1, us1 = [u1] ∧ RelV (V.str x) u1 := by
    cases rr1 with
    | cons a b => cases b with | nil => exact ⟨_, rfl, a⟩
  refine PySem.ks_codeAny_call_defAt (fd := PySem.W.ksFn name qual params _ scope dV kV doc pm an (.ref cda) ct cc) (binds := [(("self" : Str), u0), (("reason" : Str), u1)]) hr.depth (KX _ _ lk) rfl lim (PySem.W.codeRec_of KX IF.hcd) rfl hb IF.S.cell (fun z hz => ?_) (fun h1 hns hk => ?_) IF.S.co IF.S.gen IF.S.kind
  · rcases List.mem_cons.mp hz with rfl | hz
    · exact IF.S.self_
    · rcases List.mem_cons.mp hz with rfl | hz
      · exact IF.S.reason_
      · cases hz
  have I := inv_init IF (H := H) hr.hd e0 r0 r1 hns hk
  obtain rfl : u0 = Value.ref a := r0
  obtain ⟨t1, rfl⟩ := r1
  have X1 : K.In h1 := KX.keeps hk
  have i0 := s.heap.objs.size
  have hi : interactive (PySem.W.ksEnv qual scope s.heap.objs.size f (.ref cda) cc) = false := by simp [interactive, IF.S.kind]
  obtain ⟨pl, he⟩ := he s.heap.objs.size
  refine PySem.ks_wpAt_execs_cons (PySem.ks_wpAt_Expr_any (PySem.ks_wpAt_MethodCall (pl := pl) ?_ he) hi)
  obtain ⟨oD, hD1, hD2⟩ : ∃ oD, h1.get? C = some oD ∧ oD.data = .cls cd := by
    unfold PySem.W.clsIn at hclsC
    split at hclsC
    · rename_i c d cd' sl ho
      cases hclsC
      exact ⟨_, X1 _ _ ho, rfl⟩
    · cases hclsC
  obtain ⟨tt, hexo⟩ := exo_at I.hok ha
  have hexo : h1.get? a = some ({ cls := .ref C, dict := none, data := .fields #[.ref tt, .none, .none, .none, .bool false, .none] } : Obj) := hexo
  have haC : a ≠ C := fun z => by
    rw [z, hD1] at hexo
    have e := Option.some.inj hexo
    rw [e] at hD2
    cases hD2
  refine PySem.ks_wpAt_super_base (env := PySem.W.ksEnv qual scope s.heap.objs.size f (.ref cda) cc) IF.S.super_ IF.S.class_ rfl rfl (X1 _ _ lk) rfl har rfl (X1 _ _ hcode) rfl hvs hfile IF.top ?_
  obtain ⟨mb, hmb1, hmb2⟩ := I.mod.blt
  refine PySem.W.ks_loadName_global IF.S.kind IF.S.super_ (Calls.loadGlobal_builtin (env := PySem.W.ksEnv qual scope s.heap.objs.size f (.ref cda) cc) (I.mod.glob.keeps I.bk) IF.sup (hmb1.keeps I.bk) ((hmb2 _ (by decide)).trans (show bootBuiltins "super" = some (.type "super") from PyProof.Rows.Boot.«super»)) ⟨rfl, ?_⟩)
  refine wpAny_loadName_free IF.S.kind IF.S.class_ rfl ⟨_, X1 _ _ hcell, rfl⟩ ?_
  refine wpAny_loadName_local (m := fun y => [(("self" : Str), Value.ref a), (("reason" : Str), Value.str x t1)].reverse.lookup y) (v := .ref a) IF.S.kind (by rw [harn]; exact IF.S.self_) hns (by rw [harn]; rfl) ?_
  refine PySem.ks_wpAny_isType_cls hD1 hD2 ⟨rfl, ?_⟩
  refine PySem.ks_wpAny_call_super hD1 hD2 hexo rfl (fun c e => by cases e) (PySem.W.looks_mroIn X1 IF.sub) (fun h2 hso kk2 => ?_)
  have X2 : K.In h2 := X1.keeps kk2
  have hexo2 := kk2 _ _ hexo
  have IA : PySem.W.InstAt h2 a ({ cls := .ref C, dict := none, data := .fields #[.ref tt, .none, .none, .none, .bool false, .none] } : Obj) C none := ⟨hexo2, rfl, rfl, trivial⟩
  have hI : PySem.W.Looks (model P w) h2 (isInstance (.ref a) (.type "ValueError")) true := IA.type.andThen (PySem.W.looks_subIn X2 IF.ve)
  have hm := IF.init
  unfold PySem.W.ks_superIn at hm
  rw [hclsC] at hm
  refine PySem.W.kxs_getMethod PySem.W.kxs_ValueError hso (PySem.W.looks_opaque X2 IF.third) (l₀ := cd.mro) (fun A Q E s k q => wpAny_bind ((PySem.W.looks_clsIn X2 hclsC) A _ E s k (wpAny_pure q))) rfl X2 hm hI haC rfl ?_
  have kk3 : ∀ b o, h1.get? b = some o → (h2.push (PySem.W.kxs_mw "ValueError.__init__" a)).get? b = some o := fun b o e => Heap.get?_push_of_some _ (kk2 b o e)
  have J0 := I.kept (t' := s.toks + 2) (h' := h2) kk2
  have J1 := I.kept (t' := s.toks + 2 + 1) (h' := h2.push (PySem.W.kxs_mw "ValueError.__init__" a)) kk3
  have J : Inv (sxOf P w K mg base qual scope f cda cc A outer s H) [(h2.objs.size, PySem.W.kxs_mw "ValueError.__init__" a)] [some (.ref a), some (.str x)] H { s with heap := h2.push (PySem.W.kxs_mw "ValueError.__init__" a), toks := s.toks + 2 + 1 } := by
    refine J1.pins_of fun p hp => ?_
    rcases List.mem_cons.mp hp with rfl | hp
    · exact ⟨Heap.get?_push_size _ rfl, J0.hok.fresh (Nat.le_refl _), (Nat.ne_of_lt J0.lt).symm, J0.nofs (Nat.le_refl _), fun v z => by cases z⟩
    · cases hp
  have hpa : PA (sxOf P w K mg base qual scope f cda cc A outer s H) [.JoinedStr [.Constant (.str word) j1 q1, .FormattedValue (.Name "reason" q2) (-1) none q3] q4] _ :=
    pa_cons (pe_joined (PJ.cons pe_str (PJ.cons (pe_fmt (pe_var (i := 1) rfl (.inl IF.S.reason_))) .nil))) pa_nil
  refine PySem.W.kxs_callWith (i := "ValueError.__init__") (x := a) rfl ?_
  refine Calls.evalArgs_plain (wpAny_mono (hpa.run p3 _ _ _ _ (fun vs H1 => ∃ y, vs = [.str y] ∧ H1 = H) J ⟨word, rfl, ?_, .str x, rfl, .inl ⟨x, rfl, ?_, x, rfl, ?_, _, rfl, rfl⟩⟩) (fun us s3 hz => ?_) fun _ _ z => z.elim)
  · rw [Str.empty_append, sizeLine_eq]
    omega
  · exact Nat.le_trans hx (by rw [sizeLine_eq]; decide)
  · rw [Str.empty_append, len_app, sizeLine_eq]
    omega
  obtain ⟨vs3, H3, J3, r3, y3, rfl, eH⟩ := hz
  rw [eH] at J3
  clear eH
  refine ⟨(J3.pin _ (List.mem_append_right _ (.head _))).1, ?_⟩
  cases r3 with
  | cons ra rb =>
  cases rb with
  | nil =>
  obtain ⟨nm, qn, Nn, bs, bm, sn, sub, ab, col, dd, k0, k1, k2, k3, k5, hC, hbm⟩ := IF.T.cls
  obtain ⟨t3, he3⟩ := exo_at J3.hok ha
  obtain ⟨h3, g3, d3, tk3, os3⟩ := s3
  refine call_mw (J3.kIn _ _ hC) he3 (J3.pin _ (List.mem_append_right _ (.head _))).1 (by rw [sizeLine_eq]; exact (show (1 : Nat) ≤ 16777216 by decide)) fun h4 t4 k4 e4 => ?_
  have J4 := J3.write (t' := tk3) (x := a) (e := a) (o := exo a C none) (h' := h4) (by rw [ha]; exact True.intro) (.inl rfl) k4 ⟨_, e4⟩ (exo_ok e4)
  have eu : upd H a (exo a C none) = H := by
    funext b
    by_cases hb : b = a
    · rw [hb, upd_same, ha]
    · rw [upd_ne hb]
  rw [eu] at J4
  have J5 := J4.pins_of (pins' := []) (fun p hp => by cases hp)
  have hst : PS (sxOf P w K mg base qual scope f cda cc A outer s H) (.Assign [.Attribute (.Name "self" p5) "reason" p6] (.Name "reason" p7) p8) _ :=
    ps_ost (pe_var (i := 0) rfl (.inl IF.S.self_)) (pe_var (i := 1) rfl (.inl IF.S.reason_)) (hsw s.heap.objs.size)
  refine PySem.ks_wpAt_execs_cons (wpAt_of_wpAny (wpAny_mono (hst.run [] _ _ H { nx := fun _ H' => Q .non H', rt := fun _ _ => False } J5 ⟨.str x, rfl, .ref a, rfl, a, C, rfl, IF.T, IF.noR, .inl ⟨ha, fun dx n1 n2 => hq dx n1 n2⟩⟩) (fun fl s5 hz => ?_) fun _ _ z => z.elim))
  cases fl with
  | next =>
    obtain ⟨σ5, H5, J6, q6⟩ := hz
    show _root_.PySem.wpAt _ _ _ (execs [] _) _ _ _
    rw [execs_nil]
    exact wpAt_of_wpAny (wpAny_pure ⟨V.non, H5, J6.os, J6.bare, J6.base, J6.hok, rfl, q6⟩)
  | ret u =>
    obtain ⟨_, _, _, _, _, z⟩ := hz
    exact z.elim
  | brk =>
    obtain ⟨_, _, _, z⟩ := hz
    exact z.elim
  | cont =>
    obtain ⟨_, _, _, z⟩ := hz
    exact z.elim
end
end Nz

/-! defs that may raise an own exception with a word; a def that is handed on and called under try .. except -/
namespace Nz
open PySem PySem.Spec PyProof.Rows L2 RZ
section
variable {P : Program} {w : World} {K : PySem.W.Frag} {mg : Str → Option Value} {base : Heap}
/-- a def keeps its promise, wherever it is called from a place at which no repr runs; it may raise -/
structure FnX (P : Program) (w : World) (K : PySem.W.Frag) (mg : Str → Option Value) (base : Heap) (k : Nat) (f : Addr) (fd : FuncData) (ps : List Str) (sp : Sp) : Prop where
  len : ∀ vs H Q E, sp vs H Q E → vs.length = ps.length
  run : ∀ (A : Around) (outer : List Env) (s : Shared) (H : Hp) (args : Args) (us : List Value) (vs : List V) (Q : VK) (E : XK), Room k A → A.guards = some [] → Env0 P w K mg base A outer s H →
    BindsTo s fd args (ps.zip us) → Vals vs us → sp vs H Q E → codeAny (model P w) A (.call (.ref f) args) (CR (CX P w) outer P w H s Q E) s
theorem FnX.mono {j k : Nat} {f : Addr} {fd : FuncData} {ps : List Str} {sp : Sp} (F : FnX P w K mg base j f fd ps sp) (h : j ≤ k) : FnX P w K mg base k f fd ps sp :=
  ⟨F.len, fun A outer s H args us vs Q E hr => F.run A outer s H args us vs Q E (hr.mono h)⟩
theorem fnX_of {x qual : Str} {st : Stmt} {f : Addr} {fd : FuncData} {N ps : List Str} {k : Nat} {sp : Sp} (F : Fun K x qual st f fd) (S : FnScope N ps (defScope st)) (len : ∀ vs H Q E, sp vs H Q E → vs.length = ps.length)
    (hbody : ∀ (cdv : Value) (A : Around) (outer : List Env) (s : Shared) (H : Hp) (E : XK), Room k (A.deeper (envOfC qual (defScope st) s.heap.objs.size f cdv)) → A.guards = some [] →
      ∃ t, PSs (cxOf (CX P w) P w K mg base N qual (defScope st) f cdv A outer s H E) (defBody st) t ∧ ∀ (vs : List V) (Q : VK), sp vs H Q E → t { nx := fun _ H' => Q .non H', rt := Q } (L2.start N vs) H) :
    FnX P w K mg base (k + 1) f fd ps sp := by
  obtain ⟨oc, od, kV, doc, pm, an, cdv, ct, osl, rfl, lk, hcd⟩ := F.ex
  refine ⟨len, fun A outer s H args us vs Q E hr hgd e0 hb r hsp => ?_⟩
  have hl := len _ _ _ _ hsp
  have kept : ∀ b o, base.get? b = some o → s.heap.get? b = some o := fun b o e => (e0.bs b o e).1
  have KX : K.In s.heap := e0.mod.kin.keeps kept
  have pk : ∀ y ∈ ps.zip us, (defScope st).names.lookup y.1 = some .local ∨ ((defScope st).names.lookup y.1 = some .cell ∧ ((cellsFrom (s.heap.objs.size + 1) (defScope st).names []).lookup y.1).isSome = true) := by
    intro y hy
    obtain ⟨n, v⟩ := y
    cases S.par n (List.of_mem_zip hy).1 with
    | inl q => exact .inl q
    | inr q => exact .inr ⟨q, PySem.W.cellsFrom_some _ _ _ (.inl q)⟩
  apply codeAny_call_function hr.depth (KX _ _ lk) rfl S.co S.gen rfl (PySem.W.codeRec_of KX hcd)
  apply hb
  refine wpAny_newFunctionEnv_cells S.kind pk fun env he s1 x => ?_
  subst he
  refine ⟨(e0.mod.nolimit.keeps kept).keeps x.toInCall.keep, codeAny_func ?_⟩
  obtain ⟨t, ht, hq⟩ := hbody cdv A outer s H E (hr.deeper _) hgd
  have I := inv_start (CX := CX P w) (E := E) (cd := cdv) (qual := qual) S hr.hd e0 hl r x
  refine wpAny_mono (ht.run [] s1 _ H _ I (hq vs Q hsp)) (fun fl s' hs => ?_) fun e s' hs => hs
  match fl, hs with
  | .ret u, ⟨v, σ', H', J, rv, q⟩ => exact ⟨v, H', J.os, J.bare, J.base, J.hok, rv, q⟩
  | .next, ⟨σ', H', J, q⟩ => exact ⟨V.non, H', J.os, J.bare, J.base, J.hok, rfl, q⟩
  | .brk, ⟨_, _, _, q⟩ => exact q.elim
  | .cont, ⟨_, _, _, q⟩ => exact q.elim
/-- such a def by its name -/
structure ClX (P : Program) (w : World) (K : PySem.W.Frag) (mg : Str → Option Value) (base : Heap) (k : Nat) (x : Str) (ps : List Str) (sp : Sp) : Prop where
  ex : ∃ f fd, FnX P w K mg base k f fd ps sp ∧ mg x = some (.ref f) ∧ PySem.W.keepIn K (.ref f) = true ∧ Binds K fd ps []

/-- the own exception class x at C, which __init__ gives a reason -/
structure PEx (P : Program) (w : World) (K : PySem.W.Frag) (mg : Str → Option Value) (base : Heap) (x : Str) (C : Addr) : Prop where
  T : OexC K C
  ex : ∃ fI fd, PySem.W.findIn K (.ref C) "__init__" = some (some (.ref fI)) ∧ PySem.W.typeIn K (.ref fI) = some (.type "function") ∧ FnOk P w K mg base CX0 1 fI fd ["self", "reason"] (spInit C) ∧ Binds K fd ["self", "reason"] []
  at_ : mg x = some (.ref C)
/-- raise x("..") -/
def tRz (C : Addr) (te : TE) (W : WX) : TS := fun _ σ H => tMkO C (spInit C) [] (tCons te tNil) σ H fun cls d H' => W cls d σ H'
end
section
variable {X : Cx} {W : WX} {x : Str} {C : Addr} {e : Expr} {te : TE} {p p2 pos : Pos}
theorem ps_raiseW (PX : PEx X.prog X.w X.K X.mg X.base x C) (hc : X.calm = true) (tk : Takes X W) (hr : Room 2 X.A) (hg : Gl X x) (he : PE X e te)
    (hs : starEach [e] X.env = (false, eval e X.env) :: starEach [] X.env := by rfl) (hdb : (x == ("__debug__" : Str)) = false := by decide) :
    PS X (.Raise (some (.Call (.Name x p) [e] [] p2)) none pos) (tRz C te W) := by
  obtain ⟨fI, fd, h1, h2, h3, h4⟩ := PX.ex
  exact ps_raise hc tk (pmk_oex PX.T h1 h2 h3 hr h4 .nil (fun _ _ _ _ _ _ _ z => z.elim) hg PX.at_ (pa_cons he pa_nil hs) hdb hs rfl)
end
/-- what is wanted of a raised word -/
def Xt (c : Cz) (C : Addr) (wd : Str) (E : XK) : Prop := ∀ (H' : Hp) (d : Addr), (∀ a o, a ∉ c.M → c.B a = some o → H' a = some o) → H' d = some (.xd [("reason", .str wd)]) → E (.ref C) (some d) H'
section
variable {c : Cz} {ρ ρ1 : List Sl} {te : TE} {T : Tm} {D : Ends} {E : XK} {C : Addr} {wd : Str}
theorem s_raise (h : Ed c ρ te (.str wd) ρ1) (hw : wd.length ≤ 1000) (hX : Xt c C wd E) : Ss c T ρ (tRz C te fun cls d _ H => E cls d H) D := fun σ H W => by
  refine h T σ H W _ fun v H1 W1 => ?_
  obtain rfl := dp_str W1.dp
  refine ⟨(show (1 : Nat) ≤ 1000 by decide), fun a na => ⟨a, wd, rfl, hw, upd_same, fun dx hdx hne => ⟨rfl, dx, [("reason", .str wd)], upd_same, ?_, ?_, hX _ _ (fun b o hb e => ?_) upd_same⟩⟩⟩
  · rw [upd_ne hne, upd_same]
  · rw [upd_ne hne] at hdx
    exact hdx
  · have k := W1.keep b o hb e
    have n1 : b ≠ dx := fun z => by rw [z] at k; rw [upd_ne hne] at hdx; rw [hdx] at k; cases k
    have n2 : b ≠ a := fun z => by rw [z, na] at k; cases k
    rw [upd_ne n1, del_ne n2, upd_ne n2, upd_ne n1, upd_ne n2]
    exact k
/-- a def's promise: None, or a word raised -/
def SpX (K : PySem.W.Frag) (C : Addr) (R : List PyData → Option Str → Prop) : Sp := fun vs H Q E => ∃ (S : List Addr) (ds : List PyData) (r : Option Str), (∀ a ∈ S, ∃ o, H a = some o) ∧ DzAll K (hide S H) vs ds ∧ R ds r ∧
  (r = none → ∀ H', Ex H H' → Q .non H') ∧ ∀ wd, r = some wd → ∀ H' d, Ex H H' → H' d = some (.xd [("reason", .str wd)]) → E (.ref C) (some d) H'
theorem spX_len {K : PySem.W.Frag} {R : List PyData → Option Str → Prop} {ps : List Str} (h : ∀ ds r, R ds r → ds.length = ps.length) : ∀ vs H Q E, SpX K C R vs H Q E → vs.length = ps.length := fun vs H Q E ⟨S, ds, d, _, a, r, _⟩ => (dpa_length a).trans (h ds d r)
theorem fn_x {K : PySem.W.Frag} {R : List PyData → Option Str → Prop} {N : List Str} {ts : TS} (hN : ∀ ds r, R ds r → ds.length ≤ N.length)
    (h : ∀ (B : Hp) (S : List Addr) (ds : List PyData) (r : Option Str), R ds r → ∀ D : Ends, (r = none → ∀ T ρ, Sk ⟨K, B, [], S⟩ T ρ D.nx) → (∀ wd, r = some wd → Xt ⟨K, B, [], S⟩ C wd E) →
      Ss ⟨K, B, [], S⟩ [] (ds.map .da ++ List.replicate (N.length - ds.length) .no) ts D)
    (vs : List V) (H : Hp) (Q : VK) (hs : SpX K C R vs H Q E) : ts { nx := fun _ H' => Q .non H', rt := Q } (L2.start N vs) H := by
  obtain ⟨S, ds, r, hd, a, hR, q1, q2⟩ := hs
  refine h H S ds r hR { nx := fun _ H' => Q .non H', rt := Q } (fun e T ρ σ H' W => ?_) (fun wd e H' d k hx => ?_) _ _ (start_wd (M := []) hd a (hN _ _ hR))
  · exact q1 e H' fun a o z => W.keep a o (fun m => nomatch m) z
  · exact q2 wd e H' d (fun a o z => k a o (fun m => nomatch m) z) hx
end

/-! ### a def that the slot i holds, called; what it raises is wished for -/
def tCallX (i : Nat) (f : Addr) (sp : Sp) (W : WX) (t : TA) : TE := fun σ H Q => σ[i]? = some (some (.ref f)) ∧ t σ H fun vs H1 => sp vs H1 Q (fun cls d H' => W cls d σ H')
section
variable {X : Cx} {W : WX} {k i : Nat} {f : Addr} {fd : FuncData} {ps : List Str} {sp : Sp} {x : Str} {p pos : Pos} {e : Expr} {es : List Expr} {t : TA}
theorem pe_callX (F : FnX X.prog X.w X.K X.mg X.base k f fd ps sp) (hr : Room k X.A) (hgd : X.A.guards = some []) (hN : X.N[i]? = some x) (hv : Vis X.env.scope x) (hk : PySem.W.keepIn X.K (.ref f) = true) (hb : Binds X.K fd ps []) (tk : Takes X W) (ha : PA X (e :: es) t)
    (hdb : (x == ("__debug__" : Str)) = false := by decide) (hcd : (x == ("__classdict__" : Str)) = false := by decide)
    (he : starEach (e :: es) X.env = (false, eval e X.env) :: starEach es X.env := by rfl) (hpl : (backTo pos (starEach es X.env)).any (·.1) = false := by rfl) : PE X (.Call (.Name x p) (e :: es) [] pos) (tCallX i f sp W t) := by
  refine ⟨fun pins s σ H Q I h => ?_⟩
  obtain ⟨hs, ht⟩ := h
  refine wpAny_Call_Name_kw (thn ((pe_var (pos := p) hN hv hdb hcd).run pins s σ H (fun v H1 => v = .ref f ∧ H1 = H) I ⟨.ref f, hs, rfl, rfl⟩) fun u s1 ⟨v, H1, I1, r1, q1⟩ => ?_)
  obtain ⟨rfl, rfl⟩ := q1
  cases r1
  refine PySem.W.callWith_K (h₀ := X.base) I.ok.mod.kin hk (thn (ha.run pos pins s1 σ _ _ I1 ht) fun us s2 ⟨vs, H2, I2, r, q⟩ => ⟨I2.kIn, ?_⟩) he hpl
  have hl : (us ++ []).length = ps.length := by rw [List.append_nil, ← r.length]; exact F.len _ _ _ _ q
  have hb2 := hb s2 us I2.kIn hl
  rw [List.append_nil] at hb2
  show wpAny _ _ (call (.ref f) us) _ _ _
  apply wpAny_call
  refine codeAny_mono (F.run X.A X.stack s2 H2 ⟨us, []⟩ us vs Q _ hr hgd I2.env0 hb2 r q) fun z s' hq => ?_
  match z, hq with
  | .error er, hq => exact tk _ _ (XE.of_call (E := fun cls d H' => W cls d σ H') I2 (fun _ _ _ h => h) hq)
  | .ok (.ret u), hq => exact I2.after hq
  | .ok .next, hq => exact hq.elim
  | .ok .brk, hq => exact hq.elim
  | .ok .cont, hq => exact hq.elim
end
/-! ### isinstance(error, C), error of just this class -/
section
variable {K : PySem.W.Frag} {x : Value} {C : Addr}
theorem isa_ans : Answers (fun s => ∀ M : Model, PySem.W.Looks M s.heap (typeOf x) (.ref C)) x (.ref C) true := by
  intro dep tk prog w A R s hs
  obtain ⟨h0, g, d, tt, os⟩ := s
  obtain ⟨LT, hq⟩ := hs
  unfold Builtin.«isinstance.nested»
  refine wpAny_bind ((LT _).at ?_)
  rw [if_pos (show (Value.ref C == Value.ref C) = true by simp)]
  first
    | exact wpAny_bind (wpAny_rule (hq tt))
    | exact wpAny_bind (wpAny_rule (wpAny_pure (hq tt)))
theorem call_isa {prog : Program} {w : World} {A : Around} {E : Value → Shared → Prop} {s : Shared} {Q : Value → Shared → Prop} (LT : ∀ M : Model, PySem.W.Looks M s.heap (typeOf x) (.ref C)) (hx : x ≠ .builtin "__main__.__loader__#opaque") (h : ∀ tk, Q (.bool true) { s with toks := tk }) :
    wpAny (model prog w) A (call (.builtin "isinstance") [x, .ref C]) Q E s :=
  PySem.call_isinstance (S := fun _ R s => (∀ M : Model, PySem.W.Looks M s.heap (typeOf x) (.ref C)) ∧ ∀ tk, R (.ok (.ret (.bool true))) { s with toks := tk })
    (fun prog w A R s hs => isinstance_outer (isa_ans 0 _ prog w A R s hs) hx) ⟨LT, h⟩
end
def rIsX (C a : Addr) (cls : Value) : List V → Hp → VK → Prop := fun xs H Q => xs = [.ref a, .ref C] ∧ cls = .ref C ∧ Q (.bl true) H
theorem call_isX {X : Cx} {a C : Addr} {oe : Obj} {pn : List (Addr × Obj)} {cls : Value} {d : Option Addr} (hz : Zc cls d oe) : CallR (X.suite a ((a, oe) :: pn)) (.builtin "isinstance") (rIsX C a cls) := by
  intro pins s σ H xs us Q I r h
  obtain ⟨rfl, rfl, q⟩ := h
  cases r with
  | cons rx rr =>
    cases rr with
    | cons rt rr =>
      cases rr
      cases rx
      cases rt
      obtain ⟨hget, _⟩ := I.pin (a, oe) (List.mem_append.mpr (.inl List.mem_cons_self))
      exact call_isa (fun M A Q E s k q => wpAny_typeOf_ref (k _ _ hget) (by rw [hz.1]; exact q)) (fun z => nomatch z) fun tk => ⟨.bl true, H, I.kept (t' := tk) fun _ _ z => z, rfl, q⟩

/-! ### def refused(way, ..): try: way(..) except Base as error: return error.reason if isinstance(error, Own) else '!'; return '' -/
/-- its promise where way is the def named y: the raised word, "" if none -/
def SpRef (K : PySem.W.Frag) (mg : Str → Option Value) (y : Str) (R : List PyData → Option Str → Prop) : Sp := fun vs H Q E => ∃ (f : Addr) (vs' : List V), mg y = some (.ref f) ∧ vs = .ref f :: vs' ∧ vs'.length = 2 ∧
  SpP K (fun ds d => ∃ r, R ds r ∧ d = .str (r.getD "")) vs' H Q E
/-- the own class C over the own class C0 -/
structure PaperOk (P : Program) (w : World) (K : PySem.W.Frag) (mg : Str → Option Value) (base : Heap) (x x0 : Str) (C C0 : Addr) : Prop where
  px : PEx P w K mg base x C
  is0 : PySem.W.exmOne K (.ref C) (.ref C0) = some true
  xf : XfC K C
  noR : PySem.W.findIn K (.ref C) "reason" = some none
  c0 : mg x0 = some (.ref C0)
def tsRef (K : PySem.W.Frag) (C : Addr) (a : Addr) (cls : Value) (d : Option Addr) : TS :=
  tSeq (tRet (tIf (fun σ H Q => tCB (rIsX C a cls) (tCons (tVar 3) (tCons (tC (.ref C)) tNil)) σ H fun x H' => ∃ k, TruV K x H' k ∧ Q k H') (tXf a cls d C "reason" (tVar 3)) (tC (.str "!")))) tNext
theorem ref_run {K : PySem.W.Frag} {C C0 f : Addr} {R : List PyData → Option Str → Prop} {v1 v2 : V} {H : Hp} {Q : VK} {Wout : WX} (h0 : PySem.W.exmOne K (.ref C) (.ref C0) = some true)
    (h : SpP K (fun ds d => ∃ r, R ds r ∧ d = .str (r.getD "")) [v1, v2] H Q E0) :
    (tSeq (fun D σ H => (fun W => tSeq (tDrop (tCallX 0 f (SpX K C R) W (tCons (tVar 1) (tCons (tVar 2) tNil)))) tNext) (wAs K (.ref C0) 3 (tsRef K C) Wout D) D σ H) (tSeq (tRet (tC (.str ""))) tNext)) { nx := fun _ H' => Q .non H', rt := Q } [some (.ref f), some v1, some v2, none] H := by
  obtain ⟨S, ds, d, hd, a, ⟨r, hR, rfl⟩, q⟩ := h
  refine ⟨rfl, v1, rfl, v2, rfl, S, ds, r, hd, a, hR, fun e H' ex => ?_, fun wd e H' dx ex hx => ?_⟩
  · subst e
    exact q _ _ ex (.str _)
  · subst e
    refine ⟨true, h0, fun _ b nb => ?_, fun z => nomatch z⟩
    refine ⟨.ref b, rfl, rfl, rfl, true, rfl, ?_⟩
    show (if true = true then _ else _)
    rw [if_pos rfl]
    exact ⟨.ref b, rfl, rfl, rfl, dx, _, .str wd, rfl, hx, rfl, q _ _ ex (.str _)⟩
theorem ed_callRef {c : Cz} {ρ ρ1 : List Sl} {mg : Str → Option Value} {y : Str} {f : Addr} {R : List PyData → Option Str → Prop} {ts : TA} {ds : List PyData} {d : PyData} (hm : mg y = some (.ref f)) (h : Ea c ρ ts (ds.map .dat) ρ1) (hl : ds.length = 2) (hR : ∃ r, R ds r ∧ d = .str (r.getD "")) :
    Ed c ρ (tCall (SpRef c.K mg y R) [] E0 (tCons (tC (.ref f)) ts)) d ρ1 := fun T σ H W Q q => h T σ H W _ fun vs H1 a W1 => by
  show SpRef c.K mg y R ((V.ref f :: vs) ++ []) H1 Q E0
  rw [List.append_nil]
  exact ⟨f, vs, hm, rfl, (dpa_length (aa_dats a)).trans hl, hid c ρ1, ds, d, fun a h => W1.there h, aa_dats a, hR, fun v H' e dp => q v H' ((W1.grow e).push dp)⟩
theorem takes_no {X : Cx} : Takes X (fun _ _ _ _ => False) := fun u s' ⟨_, _, _, _, _, _, _, _, _, _, _, _, _, _, _, _, z⟩ => z.elim
end Nz

/-! x, y = [..], [..] where a comprehension takes x or y from without (cells): two new lists through a tuple -/
namespace Nz
open PySem PySem.Spec PyProof.Rows L2 RZ
section
variable {c : Cz} {ρ ρ1 ρ2 ρ3 : List Sl} {ta tb te tx : TE} {t u : TT} {d d1 d2 d3 : PyData} {T : Tm} {H H' : Hp} {σ : L2.St} {D : Ends} {ts tu : TS} {g : TG} {nx bk ct : L2.St → Hp → Prop} {rt : VK}
theorem ea_M2 {i j : Nat} {ds es : List PyData} (h : EdL c ρ ta ds ρ1) (h2 : ∀ S B, EdL (c.at S B) ρ1 tb es ρ1) (hij : i ≠ j) {σ : L2.St} {H : Hp} (W : Wd c T H σ ρ) {Q : List V → Hp → Prop}
    (k : ∀ p q H', Wd c T H' ((σ.set i (some (.ref p))).set j (some (.ref q))) ((ρ1.set i (.mu true p (.lst ds))).set j (.mu true q (.lst es))) → Q [.ref p, .ref q] H') : (tCons ta (tCons tb tNil)) σ H Q :=
  h T σ H W _ fun p H1 hB hn mo W1 => by
    obtain ⟨xs, hx, dx⟩ := mo
    have hs := W.sub
    have nS : p ∉ c.S0 := fun m => hn (List.mem_append_left _ m)
    have nM : p ∉ c.M := fun m => nS (hs p m)
    have lx := dpa_length dx
    have W2 : Wd (c.at (p :: c.S0) (upd c.B p (.lst xs))) (xs.zip ds ++ T) H1 σ ρ1 := (W1.pin hx hB hs nS).pushAll dx
    refine h2 _ _ _ σ H1 W2 _ fun p2 H2 B2 n2 mo2 W3 => ?_
    have ne : p2 ≠ p := fun e => by
      subst e
      exact n2 (List.mem_append_left _ (List.mem_cons_self ..))
    have B2' : c.B p2 = none := by
      have B2 : upd c.B p _ p2 = none := B2
      rw [upd_ne ne] at B2; exact B2
    have n2' : p2 ∉ hid c ρ1 := fun m => by
      rcases List.mem_append.mp m with m | m
      · exact n2 (List.mem_append_left _ (List.mem_cons_of_mem _ m))
      · exact n2 (List.mem_append_right _ m)
    have W4 : Wd ((c.hidden p2).at (p :: (c.hidden p2).S0) (upd (c.hidden p2).B p (.lst xs))) (xs.zip ds ++ T) H2 σ ρ1 := Wd.reS (S := p2 :: p :: c.S0) W3 fun x => by
      simp only [List.mem_cons]
      exact ⟨fun h => h.elim (fun e => .inr (.inl e)) (fun h => h.elim .inl (fun h => .inr (.inr h))), fun h => h.elim (fun e => .inr (.inl e)) (fun h => h.elim .inl (fun h => .inr (.inr h)))⟩
    obtain ⟨hp2, W5⟩ := W4.unpin (c := c.hidden p2) hB nM
    have nh : p ∉ hid (c.hidden p2) ρ1 := fun m => by
      rcases List.mem_append.mp m with m | m
      · rcases List.mem_cons.mp m with m | m
        · exact ne m.symm
        · exact nS m
      · exact hn (List.mem_append_right _ m)
    have dx2 : DzAll c.K (hide (hid ((c.hidden p2).hidden p) ρ1) H2) xs ds := Wd.allOf (T := T) lx W5
    have hs2 : ∀ a ∈ (c.hidden p2).M, a ∈ (c.hidden p2).S0 := fun b m => List.mem_cons_of_mem _ (hs b m)
    have W6 := W5.setM (c := c.hidden p2) hs2 i (l := true) (o := .lst ds) (by rw [if_pos rfl]; exact hB) nh ⟨xs, hp2, dx2⟩
    have n3 : p2 ∉ hid c (ρ1.set i (.mu true p (.lst ds))) := fun m => by
      rcases List.mem_append.mp m with m | m
      · exact n2' (List.mem_append_left _ m)
      · obtain ⟨r, l, u, e⟩ := mem_muts.mp m
        rcases get_set e with ⟨_, _, e⟩ | ⟨_, e⟩
        · cases e; exact ne rfl
        · exact n2' (List.mem_append_right _ (mem_muts.mpr ⟨r, l, u, e⟩))
    obtain ⟨zs, hz, dz⟩ := mo2
    have ez : Ex (hide (p2 :: hid (c.at (p :: c.S0) (upd c.B p (.lst xs))) ρ1) H2) (hide (p2 :: hid c (ρ1.set i (.mu true p (.lst ds)))) H2) := hide_mono fun b o n e => ⟨fun m => by
      rcases List.mem_cons.mp m with m | m
      · exact n (by rw [m]; exact List.mem_cons_self ..)
      · rcases List.mem_append.mp m with m | m
        · exact n (List.mem_cons_of_mem _ (List.mem_append_left _ (List.mem_cons_of_mem _ m)))
        · obtain ⟨r, l, u, e⟩ := mem_muts.mp m
          rcases get_set e with ⟨_, _, e⟩ | ⟨_, e⟩
          · cases e; exact n (List.mem_cons_of_mem _ (List.mem_append_left _ (List.mem_cons_self ..)))
          · exact n (List.mem_cons_of_mem _ (List.mem_append_right _ (mem_muts.mpr ⟨r, l, u, e⟩))), e⟩
    have W7 := W6.setM (c := c) hs j (l := true) (o := .lst es) (by rw [if_pos rfl]; exact B2') n3 ⟨zs, hz, dpam ez dz⟩
    exact k p p2 _ (W7.tmps fun q hq => List.mem_append_right _ hq)
theorem s_asgM2 {i j : Nat} {ds es : List PyData} (h : EdL c ρ ta ds ρ1) (h2 : ∀ S B, EdL (c.at S B) ρ1 tb es ρ1) (hij : i ≠ j) (k : ∀ p q, Sk c T ((ρ1.set i (.mu true p (.lst ds))).set j (.mu true q (.lst es))) nx) :
    Ss c T ρ (tAsg (tTupF (tCons ta (tCons tb tNil))) (gTup c.K 2 (gCons (gName i) (gCons (gName j) gNil)))) ⟨nx, rt, bk, ct⟩ := fun σ H W => by
  show (tCons ta (tCons tb tNil)) σ H (fun vs H1 => vs.length ≤ sizeLine ∧ ∀ p o, o.dict = none → H1 p = none → gTup c.K 2 (gCons (gName i) (gCons (gName j) gNil)) (.ref p) σ (upd H1 p (.frz o (.tup vs))) nx)
  refine ea_M2 h h2 hij W fun p q H' W' => ?_
  refine ⟨(by rw [sizeLine_eq]; exact (show (2 : Nat) ≤ 16777216 by decide)), fun tp o hz hn => ?_⟩
  refine ⟨tp, [.ref p, .ref q], rfl, ?_, rfl, ?_⟩
  · exact .inl (.inr ⟨o, upd_same⟩)
  · exact ⟨.ref p, [.ref q], rfl, .ref q, [], rfl, rfl, k p q _ _ (W'.grow (Ex.new hn))⟩
end
end Nz

/-! the own exception PaperError(OddsError(ValueError)): from what the top has written -/
namespace Nz
open PySem PySem.Spec PyProof.Rows L2 RZ
theorem initScope_of {sc : Scope} (k : sc.kind = .function) (co : sc.isCoroutine = false) (gen : sc.isGenerator = false) (h : (sc.names.all fun p => p.2 != .cell && (p.2 != .free || p.1 == ("__class__" : Str))) = true)
    (h1 : sc.names.lookup ("self" : Str) = some .local) (h2 : sc.names.lookup ("reason" : Str) = some .local) (h3 : sc.names.lookup ("super" : Str) = some .globalImplicit) (h4 : sc.names.lookup ("__class__" : Str) = some .free) : InitScope sc := by
  have q := List.all_eq_true.mp h
  refine ⟨k, co, gen, fun x hx e => ?_, fun x hx => ?_, h1, h2, h3, h4⟩
  · have := q x hx
    rw [e] at this
    simp at this
  · have := q _ (PySem.mem_of_lookup hx)
    simpa using this
/-- the first def of a class of the text -/
def firstDef (s : Stmt) : Stmt := match s with
  | .ClassDef _ _ _ b _ _ _ _ _ _ _ => b.getD 0 (.Pass ⟨0, 0, 0, 0⟩)
  | _ => .Pass ⟨0, 0, 0, 0⟩
section
variable {P : Program} {w : World} {K : PySem.W.Frag} {h base : Heap} {mg : Str → Option Value} {st : Stmt} {x x0 qual : Str} {C C0 fI cda cc N : Addr} {oc kV doc pm ct ccl cl : Value} {od an cdd cld dd : Option Addr} {osl ccs csl : Array (Option Value)} {vs : Array Value} {file : Str} {tf : Tok} {cd : ClassData}
  {nm q : Str} {bs bm sub : List Value} {sn : List Str} {ab : Bool} {col : Option Bool} {k0 k1 k2 k3 k5 : Option Value}
theorem paper_mk (X : K.In h) (G : h.Ns mainGlobals mg) (e1 : PySem.W.nsIn K mainGlobals x = some (some (.ref C))) (e2 : PySem.W.nsIn K mainGlobals x0 = some (some (.ref C0))) (e3 : PySem.W.nsIn K mainGlobals "super" = some none)
    (i1 : PySem.W.findIn K (.ref C) "__init__" = some (some (.ref fI))) (i2 : K.lookup fI = some ⟨oc, od, .func (PySem.W.ksFn "__init__" qual (defArgs st) (defBody st) (defScope st) .none kV doc pm an (.ref cda) ct cc), osl⟩)
    (i3 : PySem.W.codeIn K (.ref cda) qual = true) (i4 : K.lookup cda = some ⟨ccl, cdd, .fields vs, ccs⟩) (i5 : K.lookup cc = some ⟨cl, cld, .cell (some (.ref C)), csl⟩) (i6 : PySem.W.typeIn K (.ref fI) = some (.type "function"))
    (c1 : PySem.W.clsIn K C = some cd) (c2 : PySem.W.mroIn K C (.ref C) = some true) (c3 : PySem.W.ks_superIn K C C "__init__" = some (some (.builtin "ValueError.__init__"))) (c4 : PySem.W.subIn K (.ref C) (.type "ValueError") = some true)
    (c5 : PySem.W.nsIn K cStatics "thirdparty.any" = some none) (c6 : PySem.W.findIn K (.ref C) "reason" = some none)
    (t1 : K.lookup C = some (excClassObj nm q C N bs bm true sn sub ab col dd k0 k1 k2 k3 k5 "ValueError.__new__")) (t2 : PySem.W.findIn K (.ref C) "__setattr__" = some (some (.builtin "object.__setattr__"))) (t3 : PySem.W.subIn K (.ref C) (.type "BaseException") = some true)
    (t4 : PySem.W.typeIn K (.ref C) = some (.type "type")) (t5 : PySem.W.keepIn K (.ref C) = true) (x1 : PySem.W.findIn K (.ref C) "__getattribute__" = some (some (.builtin "BaseException.__getattribute__"))) (x2 : PySem.W.findIn K (.ref C) "__getattr__" = some none) (x3 : PySem.W.hasDictIn K C = true)
    (o1 : PySem.W.subIn K (.ref C0) (.type "BaseException") = some true) (o2 : PySem.W.hasDictIn K C0 = true) (o3 : PySem.W.typeIn K (.ref C0) = some (.type "type")) (o4 : PySem.W.subIn K (.ref C) (.ref C0) = some true)
    (v1 : vs[2]? = some (.str file tf)) (v2 : ((P.main.file : Str) == file) = true) (v3 : PySem.HandSPX.refsVE bm = true) (v4 : (P.main.scope.names.lookup ("super" : Str)).isSome = false)
    (S : InitScope (defScope st)) (par : ∃ ar : Arg, ((defArgs st).posonlyargs ++ (defArgs st).args).head? = some ar ∧ ar.arg = ("self" : Str))
    (hF : ∀ fd, InitFacts P K mg C fI cda cc "__init__" qual (defArgs st) (defBody st) (defScope st) fd → FnOk P w K mg base CX0 1 fI fd ["self", "reason"] (spInit C))
    (hB : ∀ us : List Value, us.length = 2 → bindArgs (PySem.W.ksFn "__init__" qual (defArgs st) (defBody st) (defScope st) .none kV doc pm an (.ref cda) ct cc) ⟨us, []⟩ = pure ((["self", "reason"] : List Str).zip us)) :
    PaperOk P w K mg base x x0 C C0 := by
  have T : OexC K C := ⟨⟨_, _, _, _, _, _, _, _, _, _, _, _, _, _, _, t1, v3⟩, t2, t3, t4, t5⟩
  refine ⟨⟨T, ⟨fI, _, i1, i6, hF _ ⟨⟨_, _, _, _, _, _, _, _, _, rfl, i2⟩, i3, S, par, ⟨_, _, _, _, _, _, i4, v1, v2⟩, ⟨_, _, _, i5⟩, ⟨_, c1⟩, c2, PySem.W.mg_none_of X G e3, v4, c5, c3, c4, T, c6⟩, .all hB⟩, PySem.W.mg_of X G e1⟩, PySem.W.exm_ref o1 o2 o3 o4, ⟨x1, x2, t3, x3⟩, c6, PySem.W.mg_of X G e2⟩
end
end Nz

set_option exponentiation.threshold 10000
/-! walks: chances, heights, slopes; sizes -/
namespace Nz
open PySem PySem.Spec PyProof.Rows L2 RZ
/-- a walk's chances up -/
def SpOk (c : Rat) : Prop := (0 < c ∧ c < 1) ∧ c.den ≤ 31
def WkOk (w : List Rat) : Prop := (1 ≤ w.length ∧ w.length ≤ 30) ∧ ∀ c ∈ w, SpOk c
def cw (w : List Rat) (k : Nat) : Rat := (w[k]?).getD (1 / 2)
theorem cw_get {w : List Rat} {k : Nat} {c : Rat} (h : w[k]? = some c) : cw w k = c := by unfold cw; rw [h]; rfl
theorem half_ok : SpOk (1 / 2) := ⟨⟨by decide +kernel, by decide +kernel⟩, by decide +kernel⟩
theorem cw_ok {w : List Rat} (h : WkOk w) (k : Nat) : SpOk (cw w k) := by
  unfold cw
  cases e : w[k]? with
  | none => exact half_ok
  | some c => exact h.2 c (List.mem_of_getElem? e)
theorem st_pos {c : Rat} (h : SpOk c) : 0 < c.num ∧ c.num < (c.den : Int) := by
  refine ⟨num_pos1 h.1.1, ?_⟩
  have := h.1.2
  have hd := c.den_pos
  rw [Rat.lt_iff] at this
  have e1 : ((1 : Rat).num) = 1 := rfl
  have e2 : ((1 : Rat).den) = 1 := rfl
  rw [e1, e2] at this
  omega
theorem st_qk {c : Rat} (h : SpOk c) : Qk 5 c := by
  have h1 := st_pos h
  have h2 := h.2
  exact ⟨by have : c.num.natAbs ≤ 31 := by omega
            omega, by omega⟩
def gapF (w : List Rat) : Nat → Rat
  | 0 => 1
  | k + 1 => gapF w k * ((1 - cw w k) / cw w k)
def hgtF (w : List Rat) : Nat → Rat
  | 0 => 0
  | k + 1 => hgtF w k + gapF w k
def sloF (w : List Rat) : Nat → Rat
  | 0 => 0
  | k + 1 => sloF w k * ((1 - cw w k) / cw w k) - 1 / cw w k
def lowF (w : List Rat) : Nat → Rat
  | 0 => 0
  | k + 1 => lowF w k + sloF w k
def topsF (w : List Rat) : List Rat := (List.range (w.length + 2)).map fun k => hgtF w k / hgtF w (w.length + 1)
def firF (w : List Rat) : Rat := (0 - lowF w (w.length + 1)) / hgtF w (w.length + 1)
def stepsF (w : List Rat) : List Rat := (List.range (w.length + 2)).map fun k => lowF w k + firF w * hgtF w k
/-! ### positive -/
theorem rt_pos {c : Rat} (h : SpOk c) : 0 < (1 - c) / c := div_posQ (by have := h.1.2; grind) h.1.1
theorem gap_pos {w : List Rat} (h : WkOk w) : ∀ k, 0 < gapF w k
  | 0 => (by decide +kernel : (0 : Rat) < 1)
  | k + 1 => Rat.mul_pos (gap_pos h k) (rt_pos (cw_ok h k))
theorem hgt_pos {w : List Rat} (h : WkOk w) : ∀ k, 0 < hgtF w (k + 1)
  | 0 => (by decide +kernel : (0 : Rat) < 0 + 1)
  | k + 1 => by
    have h1 := hgt_pos h k
    have h2 := gap_pos h (k + 1)
    show 0 < hgtF w (k + 1) + gapF w (k + 1)
    grind
theorem hgt_ne {w : List Rat} (h : WkOk w) (k : Nat) : hgtF w (k + 1) ≠ 0 := pos_ne (hgt_pos h k)
/-! ### sizes -/
theorem Bd_lift {M D k : Nat} {r : Rat} (h : Bd M D r) (hk : 0 < k) : Bd (M * k) (D * k) r := by
  obtain ⟨h0, n, hn, rfl⟩ := h
  refine ⟨Nat.mul_pos h0 hk, n * k, by rw [Int.natAbs_mul]; exact Nat.mul_le_mul hn (by simp), ?_⟩
  push_cast
  rw [Rat.divInt_mul_right (by omega)]
theorem Bd_sub {M M' D : Nat} {r q : Rat} (h1 : Bd M D r) (h2 : Bd M' D q) : Bd (M + M') D (r - q) := by
  rw [Rat.sub_eq_add_neg]
  exact Bd_add h1 (Bd_neg h2)
def nuF (w : List Rat) : Nat → Nat
  | 0 => 1
  | k + 1 => nuF w k * (cw w k).num.toNat
theorem nu_p {c : Rat} (h : SpOk c) : 0 < c.num.toNat ∧ c.num.toNat ≤ 31 := by
  have h1 := st_pos h
  have h2 := h.2
  omega
theorem nu_pos {w : List Rat} (h : WkOk w) : ∀ k, 0 < nuF w k
  | 0 => Nat.one_pos
  | k + 1 => Nat.mul_pos (nu_pos h k) (nu_p (cw_ok h k)).1
theorem nu_le {w : List Rat} (h : WkOk w) : ∀ k, nuF w k ≤ 31 ^ k
  | 0 => Nat.le_refl _
  | k + 1 => by
    rw [Nat.pow_succ]
    exact Nat.mul_le_mul (nu_le h k) (nu_p (cw_ok h k)).2
theorem rt_bd {c : Rat} (h : SpOk c) : Bd 31 c.num.toNat ((1 - c) / c) := by
  have h1 := st_pos h
  have h2 := h.2
  refine ⟨(nu_p h).1, (c.den : Int) - c.num, by omega, ?_⟩
  rw [Int.toNat_of_nonneg (by omega), divI]
  have e : c = (c.num : Rat) / ((c.den : Int) : Rat) := by rw [← divI]; exact (Rat.num_divInt_den c).symm
  have n1 : ((c.den : Int) : Rat) ≠ 0 := by
    have := c.den_nz
    exact_mod_cast this
  have n2 : ((c.num : Int) : Rat) ≠ 0 := by
    have : c.num ≠ 0 := by omega
    exact_mod_cast this
  rw [Rat.intCast_sub]
  generalize ((c.den : Int) : Rat) = d at *
  generalize ((c.num : Int) : Rat) = u at *
  rw [e]
  grind
theorem iv_bd {c : Rat} (h : SpOk c) : Bd 31 c.num.toNat (1 / c) := by
  have h1 := st_pos h
  have h2 := h.2
  refine ⟨(nu_p h).1, (c.den : Int), by omega, ?_⟩
  rw [Int.toNat_of_nonneg (by omega), divI]
  have e : c = (c.num : Rat) / ((c.den : Int) : Rat) := by rw [← divI]; exact (Rat.num_divInt_den c).symm
  have n1 : ((c.den : Int) : Rat) ≠ 0 := by
    have := c.den_nz
    exact_mod_cast this
  have n2 : ((c.num : Int) : Rat) ≠ 0 := by
    have : c.num ≠ 0 := by omega
    exact_mod_cast this
  generalize ((c.den : Int) : Rat) = d at *
  generalize ((c.num : Int) : Rat) = u at *
  rw [e]
  grind
theorem gap_bd0 {w : List Rat} (h : WkOk w) : ∀ k, Bd (31 ^ k) (nuF w k) (gapF w k)
  | 0 => Bd_one (by decide)
  | k + 1 => by
    have := Bd_mul (gap_bd0 h k) (rt_bd (cw_ok h k))
    rw [Nat.pow_succ]
    exact this
theorem slo_bd0 {w : List Rat} (h : WkOk w) : ∀ k, Bd (k * 31 ^ k) (nuF w k) (sloF w k)
  | 0 => Bd_zero (nu_pos h 0)
  | k + 1 => by
    have h1 := Bd_mul (slo_bd0 h k) (rt_bd (cw_ok h k))
    have h2 := Bd_lift (iv_bd (cw_ok h k)) (nu_pos h k)
    rw [Nat.mul_comm (cw w k).num.toNat] at h2
    refine (Bd_sub h1 h2).mono ?_
    have := nu_le h k
    rw [Nat.pow_succ, Nat.mul_assoc, Nat.add_mul, Nat.one_mul, Nat.mul_comm 31 (nuF w k)]
    have := Nat.mul_le_mul_right 31 this
    omega
theorem up_bd {w : List Rat} (h : WkOk w) {f : Nat → Rat} {g : Nat → Nat} (hf : ∀ k, Bd (g k * 31 ^ k) (nuF w k) (f k)) (hg : ∀ k, g k ≤ g (k + 1)) : ∀ n i, i ≤ n → Bd (g n * 31 ^ n) (nuF w n) (f i)
  | 0, i, hi => by
    obtain rfl : i = 0 := by omega
    exact hf 0
  | n + 1, i, hi => by
    by_cases e : i = n + 1
    · rw [e]; exact hf _
    · have h1 := Bd_lift (up_bd h hf hg n i (by omega)) (nu_p (cw_ok h n)).1
      refine h1.mono ?_
      rw [Nat.pow_succ, ← Nat.mul_assoc]
      exact Nat.mul_le_mul (Nat.mul_le_mul_right _ (hg n)) (nu_p (cw_ok h n)).2
theorem p31 {n : Nat} (h : n ≤ 30) : 31 ^ n ≤ 2 ^ 150 := Nat.le_trans (Nat.pow_le_pow_right (by decide) h) (by decide)
theorem gap_bd {w : List Rat} (h : WkOk w) {i : Nat} (hi : i ≤ w.length) : Bd (2 ^ 150) (nuF w w.length) (gapF w i) :=
  (up_bd h (g := fun _ => 1) (fun k => by simpa using gap_bd0 h k) (fun _ => Nat.le_refl _) _ i hi).mono (by have := p31 h.1.2; omega)
theorem slo_bd {w : List Rat} (h : WkOk w) {i : Nat} (hi : i ≤ w.length) : Bd (2 ^ 155) (nuF w w.length) (sloF w i) :=
  (up_bd h (g := fun k => k) (slo_bd0 h) (fun _ => Nat.le_succ _) _ i hi).mono (Nat.le_trans (Nat.mul_le_mul h.1.2 (p31 h.1.2)) (by decide))
theorem hgt_bd {w : List Rat} (h : WkOk w) : ∀ i, i ≤ w.length + 1 → Bd (i * 2 ^ 150) (nuF w w.length) (hgtF w i)
  | 0, _ => Bd_zero (nu_pos h _)
  | i + 1, hi => by
    rw [Nat.add_mul, Nat.one_mul]
    exact Bd_add (hgt_bd h i (by omega)) (gap_bd h (by omega))
theorem low_bd {w : List Rat} (h : WkOk w) : ∀ i, i ≤ w.length + 1 → Bd (i * 2 ^ 155) (nuF w w.length) (lowF w i)
  | 0, _ => Bd_zero (nu_pos h _)
  | i + 1, hi => by
    rw [Nat.add_mul, Nat.one_mul]
    exact Bd_add (low_bd h i (by omega)) (slo_bd h (by omega))
theorem nu_qk {w : List Rat} (h : WkOk w) : nuF w w.length ≤ 2 ^ 150 := Nat.le_trans (nu_le h _) (p31 h.1.2)
theorem nu_qk2 {w : List Rat} (h : WkOk w) : nuF w w.length ≤ 2 ^ 160 := Nat.le_trans (nu_qk h) (by decide)
theorem hgt_bd2 {w : List Rat} (h : WkOk w) {i : Nat} (hi : i ≤ w.length + 1) : Bd (2 ^ 160) (nuF w w.length) (hgtF w i) :=
  (hgt_bd h i hi).mono (Nat.le_trans (Nat.mul_le_mul (show i ≤ 31 by have := h.1.2; omega) (Nat.le_refl _)) (by decide))
theorem low_bd2 {w : List Rat} (h : WkOk w) {i : Nat} (hi : i ≤ w.length + 1) : Bd (2 ^ 160) (nuF w w.length) (lowF w i) :=
  (low_bd h i hi).mono (Nat.le_trans (Nat.mul_le_mul (show i ≤ 31 by have := h.1.2; omega) (Nat.le_refl _)) (by decide))
theorem gap_qk {w : List Rat} (h : WkOk w) {i : Nat} (hi : i ≤ w.length) : Qk 160 (gapF w i) := (gap_bd h hi).qk (by decide) (nu_qk2 h)
theorem slo_qk {w : List Rat} (h : WkOk w) {i : Nat} (hi : i ≤ w.length) : Qk 160 (sloF w i) := (slo_bd h hi).qk (by decide) (nu_qk2 h)
theorem hgt_qk {w : List Rat} (h : WkOk w) {i : Nat} (hi : i ≤ w.length + 1) : Qk 160 (hgtF w i) := (hgt_bd2 h hi).qk (Nat.le_refl _) (nu_qk2 h)
theorem low_qk {w : List Rat} (h : WkOk w) {i : Nat} (hi : i ≤ w.length + 1) : Qk 160 (lowF w i) := (low_bd2 h hi).qk (Nat.le_refl _) (nu_qk2 h)
theorem top_qk {w : List Rat} (h : WkOk w) {i : Nat} (hi : i ≤ w.length + 1) : Qk 320 (hgtF w i / hgtF w (w.length + 1)) := Qk_div (hgt_qk h hi) (hgt_qk h (Nat.le_refl _)) (hgt_pos h _)
theorem fir_qk {w : List Rat} (h : WkOk w) : Qk 330 (firF w) := (Qk_div (Qk_sub (Qk_zero 0) (low_qk h (Nat.le_refl _))) (hgt_qk h (Nat.le_refl _)) (hgt_pos h _)).mono (by decide)
theorem stp_qk {w : List Rat} (h : WkOk w) {i : Nat} (hi : i ≤ w.length + 1) : Qk 660 (lowF w i + firF w * hgtF w i) := (Qk_add (low_qk h hi) (Qk_mul (fir_qk h) (hgt_qk h hi))).mono (by decide)
/-- the steps have one common second part -/
theorem stp_bd {w : List Rat} (h : WkOk w) {i : Nat} (hi : i ≤ w.length + 1) : Bd (2 ^ 500) (nuF w w.length * (firF w).den) (lowF w i + firF w * hgtF w i) := by
  have h1 := Bd_lift (low_bd2 h hi) (firF w).den_pos
  have h2 := Bd_mul (Bd_self (fir_qk h)) (hgt_bd2 h hi)
  rw [Nat.mul_comm (firF w).den] at h2
  refine (Bd_add h1 h2).mono ?_
  have := (fir_qk h).2
  exact Nat.le_trans (Nat.add_le_add (Nat.mul_le_mul_left _ this) (Nat.le_refl _)) (by decide)
theorem stp_D {w : List Rat} (h : WkOk w) : 0 < nuF w w.length * (firF w).den ∧ nuF w w.length * (firF w).den ≤ 2 ^ 480 :=
  ⟨Nat.mul_pos (nu_pos h _) (firF w).den_pos, Nat.le_trans (Nat.mul_le_mul (nu_qk h) (fir_qk h).2) (by decide)⟩
theorem top_bd {w : List Rat} (h : WkOk w) {i : Nat} (hi : i ≤ w.length + 1) : Bd (2 ^ 500) (nuF w w.length * (1 / hgtF w (w.length + 1)).den) (hgtF w i / hgtF w (w.length + 1)) := by
  have q : Qk 160 (1 / hgtF w (w.length + 1)) := (Qk_div (Qk_one 0) (hgt_qk h (Nat.le_refl _)) (hgt_pos h _)).mono (by decide)
  have h1 := Bd_mul (hgt_bd2 h hi) (Bd_self q)
  have e : hgtF w i / hgtF w (w.length + 1) = hgtF w i * (1 / hgtF w (w.length + 1)) := by rw [Rat.div_def, Rat.div_def, Rat.one_mul]
  rw [e]
  exact h1.mono (by decide)
theorem top_D {w : List Rat} (h : WkOk w) : 0 < nuF w w.length * (1 / hgtF w (w.length + 1)).den ∧ nuF w w.length * (1 / hgtF w (w.length + 1)).den ≤ 2 ^ 480 := by
  have q : Qk 160 (1 / hgtF w (w.length + 1)) := (Qk_div (Qk_one 0) (hgt_qk h (Nat.le_refl _)) (hgt_pos h _)).mono (by decide)
  exact ⟨Nat.mul_pos (nu_pos h _) (Rat.den_pos _), Nat.le_trans (Nat.mul_le_mul (nu_qk h) q.2) (by decide)⟩
end Nz

set_option exponentiation.threshold 10000
/-! walks: what the program's loops make -/
namespace Nz
open PySem PySem.Spec PyProof.Rows L2 RZ
theorem rngM_get {α : Type} {f : Nat → α} {n i : Nat} {x : α} (h : ((List.range n).map f)[i]? = some x) : i < n ∧ x = f i := by
  rw [List.getElem?_map] at h
  cases e : (List.range n)[i]? with
  | none => rw [e] at h; cases h
  | some j =>
    rw [e] at h
    obtain ⟨h1, h2⟩ := rng_get e
    exact ⟨h2, by rw [← h1]; exact (Option.some.inj h).symm⟩
theorem last_rng (f : Nat → Rat) (i : Nat) : ixG ((List.range (i + 1)).map f) (-1) = f i := by
  rw [ixG_neg (by simp)]
  rw [show ((((List.range (i + 1)).map f).length : Int) - 1) = ((i : Nat) : Int) by simp]
  exact ixG_rng (by omega)
theorem inb_rng {α : Type} (f : Nat → α) (i : Nat) : InB ((List.range (i + 1)).map f).length (-1) := ⟨by simp; omega, by simp; omega⟩
theorem gap_step {w : List Rat} {i : Nat} {x : Rat} (h : w[i]? = some x) : (List.range (i + 1)).map (gapF w) ++ [ixG ((List.range (i + 1)).map (gapF w)) (-1) * ((1 - x) / x)] = (List.range (i + 1 + 1)).map (gapF w) := by
  rw [last_rng, List.range_succ (n := i + 1), List.map_append]
  show _ = _ ++ [gapF w i * ((1 - cw w i) / cw w i)]
  rw [cw_get h]
theorem hgt_step {w : List Rat} {i n : Nat} {x : Rat} (h : ((List.range n).map (gapF w))[i]? = some x) : (List.range (i + 1)).map (hgtF w) ++ [ixG ((List.range (i + 1)).map (hgtF w)) (-1) + x] = (List.range (i + 1 + 1)).map (hgtF w) := by
  rw [last_rng, List.range_succ (n := i + 1), List.map_append, (rngM_get h).2]
  rfl
theorem rt_qk {c : Rat} (h : SpOk c) : Qk 5 (1 - c) := by
  have h1 := st_pos h
  have h2 := h.2
  have e : (1 - c) = ⟨(c.den : Int) - c.num, c.den, c.den_nz, co_cop c⟩ := (co_rat c).symm
  rw [e]
  refine ⟨?_, ?_⟩
  · show ((c.den : Int) - c.num).natAbs ≤ 2 ^ 5
    omega
  · show c.den ≤ 2 ^ 5
    omega
theorem rtd_qk {c : Rat} (h : SpOk c) : Qk 10 ((1 - c) / c) := Qk_div (rt_qk h) (st_qk h) h.1.1
theorem hgts_qk {w : List Rat} (h : WkOk w) {r : Rat} (hr : r ∈ (List.range (((List.range (w.length + 1)).map (gapF w)).length + 1)).map (hgtF w)) : Qk 160 r := by
  obtain ⟨k, hk, rfl⟩ := List.mem_map.mp hr
  have := List.mem_range.mp hk
  rw [List.length_map, List.length_range] at this
  exact hgt_qk h (by omega)
theorem hgt_last (w : List Rat) : ixG ((List.range (((List.range (w.length + 1)).map (gapF w)).length + 1)).map (hgtF w)) (-1) = hgtF w (w.length + 1) := by
  rw [last_rng, List.length_map, List.length_range]
theorem stp_chk {c : Rat} (h : SpOk c) : (decide ((1 : Int) ≤ c.num) && (decide (c.num < (c.den : Int)) && decide ((c.den : Int) ≤ 1000))) = true := by
  have h1 := st_pos h
  have h2 := h.2
  rw [decide_eq_true (by omega), decide_eq_true (by omega), decide_eq_true (by omega)]
  rfl
theorem top_ret (w : List Rat) : eT eQ (((List.range (((List.range (w.length + 1)).map (gapF w)).length + 1)).map (hgtF w)).map fun x => x / ixG ((List.range (((List.range (w.length + 1)).map (gapF w)).length + 1)).map (hgtF w)) (-1)) = eT eQ (topsF w) := by
  rw [hgt_last, List.map_map, List.length_map, List.length_range]
  rfl
end Nz

set_option exponentiation.threshold 10000
/-! walks: mean steps' lists -/
namespace Nz
open PySem PySem.Spec PyProof.Rows L2 RZ
def mixF (c l h : Rat) : Rat := c * h + (1 - c) * l
theorem slo_step {w : List Rat} {i : Nat} {x : Rat} (h : w[i]? = some x) : (List.range (i + 1)).map (sloF w) ++ [ixG ((List.range (i + 1)).map (sloF w)) (-1) * ((1 - x) / x) - 1 / x] = (List.range (i + 1 + 1)).map (sloF w) := by
  rw [last_rng, List.range_succ (n := i + 1), List.map_append]
  show _ = _ ++ [sloF w i * ((1 - cw w i) / cw w i) - 1 / cw w i]
  rw [cw_get h]
theorem zipM_get {f g : Nat → Rat} {n i : Nat} {x : Rat × Rat} (h : (((List.range n).map f).zip ((List.range n).map g))[i]? = some x) : i < n ∧ x.1 = f i ∧ x.2 = g i := by
  rw [List.getElem?_zip_eq_some] at h
  obtain ⟨h1, h2⟩ := h
  exact ⟨(rngM_get h1).1, (rngM_get h1).2, (rngM_get h2).2⟩
theorem zipM_mem {f g : Nat → Rat} {n : Nat} {x : Rat × Rat} (h : x ∈ ((List.range n).map f).zip ((List.range n).map g)) : ∃ k, k < n ∧ x.1 = f k ∧ x.2 = g k := by
  obtain ⟨i, hi⟩ := List.getElem?_of_mem h
  exact ⟨i, zipM_get hi⟩
theorem zlen (f g : Nat → Rat) (n : Nat) : (((List.range n).map f).zip ((List.range n).map g)).length = n := by simp
theorem low_step {w : List Rat} {i n : Nat} {x : Rat × Rat} (h : (((List.range n).map (sloF w)).zip ((List.range n).map (gapF w)))[i]? = some x) : (List.range (i + 1)).map (lowF w) ++ [ixG ((List.range (i + 1)).map (lowF w)) (-1) + x.1] = (List.range (i + 1 + 1)).map (lowF w) := by
  rw [last_rng, List.range_succ (n := i + 1), List.map_append, (zipM_get h).2.1]
  rfl
theorem hgt_step2 {w : List Rat} {i n : Nat} {x : Rat × Rat} (h : (((List.range n).map (sloF w)).zip ((List.range n).map (gapF w)))[i]? = some x) : (List.range (i + 1)).map (hgtF w) ++ [ixG ((List.range (i + 1)).map (hgtF w)) (-1) + x.2] = (List.range (i + 1 + 1)).map (hgtF w) := by
  rw [last_rng, List.range_succ (n := i + 1), List.map_append, (zipM_get h).2.2]
  rfl
theorem zmap (f g : Nat → Rat) (h : Rat × Rat → Rat) (n : Nat) : (((List.range n).map f).zip ((List.range n).map g)).map h = (List.range n).map fun k => h (f k, g k) := by
  rw [List.zip_map']
  rw [List.map_map]
  rfl
end Nz

set_option exponentiation.threshold 10000
/-! walks: what is accepted -/
namespace Nz
open PySem PySem.Spec PyProof.Rows L2 RZ
def topWAt (w ch : List Rat) (j : Nat) : Bool := decide (mixF (cw w j) (ixG ch (j : Int)) (ixG ch ((j : Int) + 2)) = ixG ch ((j : Int) + 1))
def topW (w ch : List Rat) : Option Str := if (!decide (ixG ch (0 : Int) = 0) || !decide (ixG ch (-1) = 1)) = true then some ("end" : Str) else if (List.range w.length).all (topWAt w ch) = true then none else some ("place" : Str)
def stepWAt (w ch : List Rat) (j : Nat) : Bool := decide (1 + mixF (cw w j) (ixG ch (j : Int)) (ixG ch ((j : Int) + 2)) = ixG ch ((j : Int) + 1))
def stepW (w ch : List Rat) : Option Str := if (!decide (ixG ch (0 : Int) = 0) || !decide (ixG ch (-1) = 0)) = true then some ("end" : Str) else if (List.range w.length).all (stepWAt w ch) = true then none else some ("place" : Str)
theorem mix_qk {c l h : Rat} (h0 : SpOk c) (h1 : Qk 700 l) (h2 : Qk 700 h) : Qk 1411 (mixF c l h) := Qk_add (Qk_mul (st_qk h0) h2) (Qk_mul (rt_qk h0) h1)
theorem acc_next {P : Nat → Bool} {i : Nat} (h : ∀ j, j < i → P j = true) (hi : P i = true) : ∀ j, j < i + 1 → P j = true := fun j hj => by
  by_cases e : j = i
  · rw [e]; exact hi
  · exact h j (by omega)
theorem topW_end {w ch : List Rat} {n : Nat} (_ : ch.length = n) (h : (!decide (ixG ch (0 : Int) = 0) || !decide (ixG ch (-1) = 1)) = true) : topW w ch = some ("end" : Str) := if_pos h
theorem stepW_end {w ch : List Rat} {n : Nat} (_ : ch.length = n) (h : (!decide (ixG ch (0 : Int) = 0) || !decide (ixG ch (-1) = 0)) = true) : stepW w ch = some ("end" : Str) := if_pos h
theorem topW_on {w ch : List Rat} {i : Nat} {x : Rat × Nat} (hx : w.zipIdx[i]? = some x) (h : (!decide (mixF x.1 (ixG ch (x.2 : Int)) (ixG ch ((x.2 : Int) + 2)) = ixG ch ((x.2 : Int) + 1))) = false) : topWAt w ch i = true := by
  obtain ⟨h1, h2, _⟩ := en_get hx
  unfold topWAt
  rw [cw_get h2, ← h1]
  simpa using h
theorem stepW_on {w ch : List Rat} {i : Nat} {x : Rat × Nat} (hx : w.zipIdx[i]? = some x) (h : (!decide (1 + mixF x.1 (ixG ch (x.2 : Int)) (ixG ch ((x.2 : Int) + 2)) = ixG ch ((x.2 : Int) + 1))) = false) : stepWAt w ch i = true := by
  obtain ⟨h1, h2, _⟩ := en_get hx
  unfold stepWAt
  rw [cw_get h2, ← h1]
  simpa using h
theorem all_not {n i : Nat} {P : Nat → Bool} (hi : i < n) (h : P i = false) : ¬ (List.range n).all P = true := fun z => by
  have := List.all_eq_true.mp z i (List.mem_range.mpr hi)
  rw [h] at this
  cases this
theorem topW_no {w ch : List Rat} {n i : Nat} {x : Rat × Nat} (_ : ch.length = n) (h0 : (!decide (ixG ch (0 : Int) = 0) || !decide (ixG ch (-1) = 1)) = false) (hx : w.zipIdx[i]? = some x)
    (h : (!decide (mixF x.1 (ixG ch (x.2 : Int)) (ixG ch ((x.2 : Int) + 2)) = ixG ch ((x.2 : Int) + 1))) = true) : topW w ch = some ("place" : Str) := by
  obtain ⟨h1, h2, h3⟩ := en_get hx
  unfold topW
  rw [if_neg (by rw [h0]; decide), if_neg (all_not h3 ?_)]
  unfold topWAt
  rw [cw_get h2, ← h1]
  simpa using h
theorem stepW_no {w ch : List Rat} {n i : Nat} {x : Rat × Nat} (_ : ch.length = n) (h0 : (!decide (ixG ch (0 : Int) = 0) || !decide (ixG ch (-1) = 0)) = false) (hx : w.zipIdx[i]? = some x)
    (h : (!decide (1 + mixF x.1 (ixG ch (x.2 : Int)) (ixG ch ((x.2 : Int) + 2)) = ixG ch ((x.2 : Int) + 1))) = true) : stepW w ch = some ("place" : Str) := by
  obtain ⟨h1, h2, h3⟩ := en_get hx
  unfold stepW
  rw [if_neg (by rw [h0]; decide), if_neg (all_not h3 ?_)]
  unfold stepWAt
  rw [cw_get h2, ← h1]
  simpa using h
theorem topW_yes {w ch : List Rat} {n : Nat} (_ : ch.length = n) (h0 : (!decide (ixG ch (0 : Int) = 0) || !decide (ixG ch (-1) = 1)) = false) (h : ∀ j, j < w.zipIdx.length → topWAt w ch j = true) : topW w ch = none := by
  unfold topW
  rw [if_neg (by rw [h0]; decide), if_pos (List.all_eq_true.mpr fun j hj => h j (by rw [List.length_zipIdx]; exact List.mem_range.mp hj))]
theorem stepW_yes {w ch : List Rat} {n : Nat} (_ : ch.length = n) (h0 : (!decide (ixG ch (0 : Int) = 0) || !decide (ixG ch (-1) = 0)) = false) (h : ∀ j, j < w.zipIdx.length → stepWAt w ch j = true) : stepW w ch = none := by
  unfold stepW
  rw [if_neg (by rw [h0]; decide), if_pos (List.all_eq_true.mpr fun j hj => h j (by rw [List.length_zipIdx]; exact List.mem_range.mp hj))]
end Nz

set_option exponentiation.threshold 10000
/-! walks: places behind steps -/
namespace Nz
open PySem PySem.Spec PyProof.Rows L2 RZ
def dl (p : Nat) : Nat → Rat := fun j => if j = p then 1 else 0
def furF (w : List Rat) (f : Nat → Rat) : Nat → Nat → Rat
  | 0 => fun j => if j = 0 then f 0 else if j = w.length + 1 then f (w.length + 1) else 0
  | i + 1 => fun j => furF w f i j + (if j = i then f (i + 1) * (1 - cw w i) else 0) + (if j = i + 2 then f (i + 1) * cw w i else 0)
def stF (w : List Rat) (f : Nat → Rat) : Nat → Rat := furF w f w.length
def itF (w : List Rat) : Nat → (Nat → Rat) → Nat → Rat
  | 0, f => f
  | t + 1, f => stF w (itF w t f)
def rowL (w : List Rat) (f : Nat → Rat) : List Rat := (List.range (w.length + 2)).map f
def behF (w : List Rat) (p t : Nat) : List Rat := rowL w (itF w t (dl p))
theorem rowL_len (w : List Rat) (f : Nat → Rat) : (rowL w f).length = w.length + 2 := by simp [rowL]
theorem set_rng (f : Nat → Rat) (n i : Nat) (v : Rat) : ((List.range n).map f).set i v = (List.range n).map fun j => if j = i then v else f j := by
  apply List.ext_getElem?
  intro k
  rw [List.getElem?_set]
  by_cases h : i = k
  · subst h
    rw [if_pos rfl]
    by_cases hk : i < n
    · simp [hk]
    · simp [hk]
  · rw [if_neg h]
    by_cases hk : k < n
    · simp [hk, Ne.symm h]
    · simp [hk]
theorem row_at {w : List Rat} {f : Nat → Rat} {k : Int} (h : 0 ≤ k ∧ k < (w.length : Int) + 2) : ixG (rowL w f) k = f k.toNat := by
  have := ixG_rng (f := f) (n := w.length + 2) (j := k.toNat) (by omega)
  rw [show ((k.toNat : Nat) : Int) = k by omega] at this
  exact this
theorem row_last (w : List Rat) (f : Nat → Rat) : ixG (rowL w f) (-1) = f (w.length + 1) := last_rng f _
theorem row_set (w : List Rat) (f : Nat → Rat) (i : Nat) (v : Rat) : (rowL w f).set i v = rowL w fun j => if j = i then v else f j := set_rng _ _ _ _
theorem fur_step {w : List Rat} {f : Nat → Rat} {i : Nat} {x : Rat × Nat} (hx : w.zipIdx[i]? = some x) :
    ((rowL w (furF w f i)).set ((x.2 : Int)).toNat (ixG (rowL w (furF w f i)) (x.2 : Int) + ixG (rowL w f) ((x.2 : Int) + 1) * (1 - x.1))).set ((x.2 : Int) + 2).toNat
      (ixG ((rowL w (furF w f i)).set ((x.2 : Int)).toNat (ixG (rowL w (furF w f i)) (x.2 : Int) + ixG (rowL w f) ((x.2 : Int) + 1) * (1 - x.1))) ((x.2 : Int) + 2) + ixG (rowL w f) ((x.2 : Int) + 1) * x.1) = rowL w (furF w f (i + 1)) := by
  obtain ⟨h1, h2, h3⟩ := en_get hx
  rw [row_set, row_set, row_at (by omega), row_at (by omega), row_at (by omega)]
  rw [show ((x.2 : Int)).toNat = i by omega, show ((x.2 : Int) + 1).toNat = i + 1 by omega, show ((x.2 : Int) + 2).toNat = i + 2 by omega]
  refine congrArg (rowL w) (funext fun j => ?_)
  show _ = furF w f i j + (if j = i then f (i + 1) * (1 - cw w i) else 0) + (if j = i + 2 then f (i + 1) * cw w i else 0)
  rw [cw_get h2]
  by_cases e : j = i
  · subst e
    simp
    grind
  · by_cases e2 : j = i + 2
    · subst e2
      simp
      grind
    · simp [e, e2]
      grind
theorem beh_init {w : List Rat} {p : Int} (h : 0 ≤ p ∧ p ≤ (w.length : Int) + 1) : eL eQ ((List.range ((w.length : Int) + 2).toNat).map fun (x : Nat) => (((if (decide ((x : Int) = p)) = true then (1 : Int) else 0) : Int) : Rat)) = eL eQ (rowL w (dl p.toNat)) := by
  unfold rowL
  rw [show ((w.length : Int) + 2).toNat = w.length + 2 by omega]
  refine congrArg (eL eQ) (List.map_congr_left fun x _ => ?_)
  unfold dl
  by_cases e : (x : Int) = p
  · rw [if_pos (by simpa using e), if_pos (by omega)]; rfl
  · rw [if_neg (by simpa using e), if_neg (by omega)]; rfl
/-! ### sizes -/
def LL : Nat := 72201776446800
theorem dvd_LL : ∀ d, d < 32 → 0 < d → d ∣ LL := by decide +kernel
theorem LL_pos : 0 < LL := by decide
theorem cw_bd {c : Rat} (h : SpOk c) : Bd LL LL c ∧ Bd LL LL (1 - c) := by
  have h1 := st_pos h
  have h2 := h.2
  obtain ⟨q, hq⟩ := dvd_LL c.den (by omega) c.den_pos
  have hq0 : 0 < q := by
    rcases Nat.eq_zero_or_pos q with e | e
    · rw [e, Nat.mul_zero] at hq; exact absurd hq (by decide)
    · exact e
  have b1 : Bd c.den c.den c := ⟨c.den_pos, c.num, by omega, (Rat.num_divInt_den c).symm⟩
  have b2 : Bd c.den c.den (1 - c) := ⟨c.den_pos, (c.den : Int) - c.num, by omega, by rw [← co_rat c]; exact (Rat.num_divInt_den ⟨(c.den : Int) - c.num, c.den, c.den_nz, co_cop c⟩).symm⟩
  rw [hq]
  exact ⟨Bd_lift b1 hq0, Bd_lift b2 hq0⟩
theorem fur_bd {w : List Rat} (h : WkOk w) {M D : Nat} {f : Nat → Rat} (hf : ∀ j, Bd M D (f j)) : ∀ i j, Bd ((1 + 2 * i) * (M * LL)) (D * LL) (furF w f i j)
  | 0, j => by
    rw [Nat.mul_zero, Nat.add_zero, Nat.one_mul]
    show Bd _ _ (if j = 0 then f 0 else if j = w.length + 1 then f (w.length + 1) else 0)
    split
    · exact Bd_lift (hf _) LL_pos
    · split
      · exact Bd_lift (hf _) LL_pos
      · exact Bd_zero (Nat.mul_pos (hf 0).1 LL_pos)
  | i + 1, j => by
    have c := cw_bd (cw_ok h i)
    have b1 := Bd_mul (hf (i + 1)) c.1
    have b2 := Bd_mul (hf (i + 1)) c.2
    have z : Bd (M * LL) (D * LL) 0 := Bd_zero (Nat.mul_pos (hf 0).1 LL_pos)
    have e : (1 + 2 * (i + 1)) * (M * LL) = (1 + 2 * i) * (M * LL) + M * LL + M * LL := by
      rw [show 1 + 2 * (i + 1) = (1 + 2 * i) + 1 + 1 by omega, Nat.add_mul, Nat.add_mul, Nat.one_mul]
    rw [e]
    refine Bd_add (Bd_add (fur_bd h hf i j) ?_) ?_
    · split
      · exact b2
      · exact z
    · split
      · exact b1
      · exact z
theorem it_bd {w : List Rat} (h : WkOk w) (p : Nat) : ∀ t j, Bd ((64 * LL) ^ t) (LL ^ t) (itF w t (dl p) j)
  | 0, j => by
    show Bd 1 1 (if j = p then (1 : Rat) else 0)
    split
    · exact Bd_one (by decide)
    · exact Bd_zero (by decide)
  | t + 1, j => by
    refine (fur_bd h (it_bd h p t) w.length j).mono ?_
    rw [Nat.pow_succ, show (64 * LL) ^ t * (64 * LL) = 64 * ((64 * LL) ^ t * LL) by rw [Nat.mul_left_comm]]
    exact Nat.mul_le_mul_right _ (by have := h.1.2; omega)
theorem LLp {t : Nat} (h : t ≤ 40) : (64 * LL) ^ t ≤ 2 ^ 2120 ∧ LL ^ t ≤ 2 ^ 1880 ∧ 0 < LL ^ t :=
  ⟨Nat.le_trans (Nat.pow_le_pow_right (by decide) h) (by decide +kernel), Nat.le_trans (Nat.pow_le_pow_right (by decide) h) (by decide +kernel), Nat.pow_pos (by decide)⟩
theorem it_qk {w : List Rat} (h : WkOk w) {p t : Nat} (ht : t ≤ 40) (j : Nat) : Qk 2120 (itF w t (dl p) j) :=
  (it_bd h p t j).qk (LLp ht).1 (Nat.le_trans (LLp ht).2.1 (Nat.pow_le_pow_right (by decide) (by decide)))
theorem fur_qk {w : List Rat} (h : WkOk w) {p t i : Nat} (ht : t ≤ 40) (hi : i ≤ w.length) (j : Nat) : Qk 2180 (furF w (itF w t (dl p)) i j) := by
  refine (fur_bd h (it_bd h p t) i j).qk ?_ ?_
  · have h1 := h.1.2
    exact Nat.le_trans (Nat.mul_le_mul (show 1 + 2 * i ≤ 61 by omega) (Nat.mul_le_mul (LLp ht).1 (Nat.le_refl _))) (by decide +kernel)
  · exact Nat.le_trans (Nat.mul_le_mul (LLp ht).2.1 (Nat.le_refl _)) (by decide +kernel)
theorem fur_init (w : List Rat) (f : Nat → Rat) : ([ixG (rowL w f) (0 : Int)] ++ (List.replicate (((w.length : Int) + 2) - 2).toNat [(0 : Rat)]).flatten) ++ [ixG (rowL w f) (-1)] = rowL w (furF w f 0) := by
  rw [row_at (by omega), row_last]
  have e1 : (List.replicate (((w.length : Int) + 2) - 2).toNat [(0 : Rat)]).flatten = List.replicate w.length 0 := by
    rw [show (((w.length : Int) + 2) - 2).toNat = w.length by omega]
    generalize w.length = n
    induction n with
    | zero => rfl
    | succ n ih => rw [List.replicate_succ, List.flatten_cons, ih, List.replicate_succ]; rfl
  rw [e1]
  show _ = (List.range (w.length + 2)).map (furF w f 0)
  rw [List.range_succ, List.map_append, List.range_succ_eq_map, List.map_cons, List.map_map]
  have e2 : (List.range w.length).map (furF w f 0 ∘ Nat.succ) = List.replicate w.length 0 := by
    rw [List.eq_replicate_iff]
    refine ⟨by simp, fun b hb => ?_⟩
    obtain ⟨k, hk, rfl⟩ := List.mem_map.mp hb
    have := List.mem_range.mp hk
    show (if k + 1 = 0 then f 0 else if k + 1 = w.length + 1 then f (w.length + 1) else 0) = 0
    rw [if_neg (by omega), if_neg (by omega)]
  rw [e2]
  show _ = [furF w f 0 0] ++ _ ++ [furF w f 0 (w.length + 1)]
  have e3 : furF w f 0 (w.length + 1) = f (w.length + 1) := by
    show (if w.length + 1 = 0 then f 0 else if w.length + 1 = w.length + 1 then f (w.length + 1) else 0) = _
    rw [if_neg (by omega), if_pos rfl]
  rw [e3]
  rfl
end Nz

set_option exponentiation.threshold 10000
/-! walks: the law's own -/
namespace Nz
open PySem PySem.Spec PyProof.Rows L2 RZ
theorem wk_done {w : List Rat} {many : Int} (h : 1 ≤ many ∧ many ≤ 30) (hP : w.length = (List.range many.toNat).length ∧ ∀ c ∈ w, SpOk c) : WkOk w := by
  have hn := hP.1
  rw [List.length_range] at hn
  exact ⟨⟨by omega, by omega⟩, hP.2⟩
theorem wk_next {w : List Rat} {i : Nat} {c : Rat} (hP : w.length = i ∧ ∀ c ∈ w, SpOk c) (h : SpOk c) : (w ++ [c]).length = i + 1 ∧ ∀ x ∈ w ++ [c], SpOk x := by
  refine ⟨by simp [hP.1], fun x hx => ?_⟩
  rcases List.mem_append.mp hx with hx | hx
  · exact hP.2 x hx
  · rw [List.mem_singleton.mp hx]; exact h
theorem rt_ci {c : Rat} (h : SpOk c) : Nat.gcd ((c.den : Int) - c.num).natAbs c.num.toNat = 1 := by
  have h1 := st_pos h
  have hc : Nat.gcd c.num.natAbs c.den = 1 := c.reduced
  have e : ((c.den : Int) - c.num).natAbs = c.den - c.num.natAbs := by omega
  have e2 : c.num.toNat = c.num.natAbs := by omega
  rw [e, e2, Nat.gcd_comm, Nat.gcd_sub_self_right (by omega)]
  exact hc
theorem rt_bdE {c : Rat} (h : SpOk c) : 0 < c.num.toNat ∧ (1 - c) / c = Rat.divInt ((c.den : Int) - c.num) (c.num.toNat : Int) := by
  have h1 := st_pos h
  refine ⟨(nu_p h).1, ?_⟩
  rw [Int.toNat_of_nonneg (by omega), divI]
  have e : c = (c.num : Rat) / ((c.den : Int) : Rat) := by rw [← divI]; exact (Rat.num_divInt_den c).symm
  have n1 : ((c.den : Int) : Rat) ≠ 0 := by
    have := c.den_nz
    exact_mod_cast this
  have n2 : ((c.num : Int) : Rat) ≠ 0 := by
    have : c.num ≠ 0 := by omega
    exact_mod_cast this
  rw [Rat.intCast_sub]
  generalize ((c.den : Int) : Rat) = d at *
  generalize ((c.num : Int) : Rat) = u at *
  rw [e]
  grind
theorem rt_pair {c : Rat} (h : SpOk c) : PyData.tuple [.int ((c.den : Int) - c.num), .int c.num] = eQ ((1 - c) / c) := by
  have h1 := st_pos h
  have e := rt_ci h
  have hn : ((1 - c) / c).num = (c.den : Int) - c.num ∧ (((1 - c) / c).den : Int) = c.num := by
    have e0 : (1 - c) / c = ⟨(c.den : Int) - c.num, c.num.toNat, by omega, e⟩ := by
      rw [(rt_bdE h).2]
      exact (Rat.num_divInt_den (⟨(c.den : Int) - c.num, c.num.toNat, by omega, e⟩ : Rat))
    rw [e0]
    exact ⟨rfl, by show ((c.num.toNat : Nat) : Int) = c.num; omega⟩
  show _ = PyData.tuple [.int _, .int _]
  rw [hn.1, hn.2]
theorem sum_step {w : List Rat} {i : Nat} {x : Rat} (h : w[i]? = some x) : (List.range (i + 2)).map (hgtF w) ++ [ixG ((List.range (i + 2)).map (hgtF w)) (-1) + ixG ((List.range (i + 1)).map (gapF w) ++ [ixG ((List.range (i + 1)).map (gapF w)) (-1) * ((1 - x) / x)]) (-1)] = (List.range (i + 1 + 2)).map (hgtF w) := by
  rw [gap_step h, last_rng, last_rng, List.range_succ (n := i + 2), List.map_append]
  rfl
theorem wk_app {d : Int} {v : Rat} (hd : 2 ≤ d ∧ d ≤ 31) (h : ∃ x : Int × Int × Unit, ((∃ a b : Int, a = 1 ∧ (0 ≤ b ∧ b < d - 1) ∧ x.1 = 1 + b) ∧ x.2.1 = d ∧ True) ∧ v = Rat.divInt x.1 d) : SpOk v := by
  obtain ⟨⟨u, _, _⟩, ⟨⟨a, b, rfl, hb, hu⟩, _⟩, rfl⟩ := h
  dsimp only at hu ⊢
  subst hu
  refine ⟨⟨?_, ?_⟩, ?_⟩
  · have := div_lt (a := 0) (b := 1 + b) (c := d) (by omega) (by omega)
    rw [Rat.zero_divInt] at this
    exact this
  · have := div_lt (a := 1 + b) (b := d) (c := d) (by omega) (by omega)
    rw [divI d d] at this
    have n1 : (d : Rat) ≠ 0 := by
      have : d ≠ 0 := by omega
      exact_mod_cast this
    have e : (d : Rat) / (d : Rat) = 1 := by
      generalize (d : Rat) = x at *
      grind
    rw [e] at this
    exact this
  · have := (divInt_le (1 + b) d (by omega)).2
    omega
theorem inb_neg1 {n : Nat} (h : 0 < n) : InB n (-1) := ⟨by omega, by omega⟩
theorem hgt_two (w : List Rat) : [0, 1] = (List.range (0 + 2)).map (hgtF w) := by
  show [(0 : Rat), 1] = [0, 0 + 1]
  rw [Rat.zero_add]
def meanF (a b : List Rat) : Rat := ((List.range b.length).map fun (k : Nat) => ixG a (k : Int) * ixG b (k : Int)).sum
def MeanOk (a b : List Rat) : Prop := ∃ M1 D1 M2 D2, (∀ r ∈ a, Bd M1 D1 r) ∧ (∀ r ∈ b, Bd M2 D2 r) ∧ M1 < 2 ^ 4400 ∧ M2 < 2 ^ 4400 ∧ D1 < 2 ^ 4400 ∧ D2 < 2 ^ 4400 ∧ 33 * (M1 * M2) < 2 ^ 4400 ∧ D1 * D2 < 2 ^ 4400
theorem mean_a {a b : List Rat} (hl : a.length = b.length ∧ b.length ≤ 32) (h : MeanOk a b) {k : Nat} (hk : k ∈ List.range ((b.length : Int)).toNat) : Qb (ixG a (k : Int)) ∧ Qb (ixG b (k : Int)) := by
  obtain ⟨M1, D1, M2, D2, h1, h2, h3, h4, h5, h6, _⟩ := h
  have := List.mem_range.mp hk
  exact ⟨(h1 _ (ixG_mem (by omega))).qb h3 h5, (h2 _ (ixG_mem (by omega))).qb h4 h6⟩
theorem mean_pre {a b : List Rat} (hl : a.length = b.length ∧ b.length ≤ 32) (h : MeanOk a b) : ∃ M D, (∀ r ∈ (List.range ((b.length : Int)).toNat).map fun (k : Nat) => ixG a (k : Int) * ixG b (k : Int), Bd M D r) ∧ (((List.range ((b.length : Int)).toNat).map fun (k : Nat) => ixG a (k : Int) * ixG b (k : Int)).length + 1) * M < 2 ^ 4400 ∧ 0 < D ∧ D < 2 ^ 4400 := by
  obtain ⟨M1, D1, M2, D2, h1, h2, h3, h4, h5, h6, h7, h8⟩ := h
  by_cases h0 : b.length = 0
  · rw [h0]
    exact ⟨0, 1, (fun r hr => by simp at hr), (by simp), (by decide), Nat.one_lt_two_pow (by decide)⟩
  · refine ⟨M1 * M2, D1 * D2, fun r hr => ?_, ?_, ?_, h8⟩
    · obtain ⟨k, hk, rfl⟩ := List.mem_map.mp hr
      have := List.mem_range.mp hk
      exact Bd_mul (h1 _ (ixG_mem (by omega))) (h2 _ (ixG_mem (by omega)))
    · simp only [List.length_map, List.length_range]
      exact Nat.lt_of_le_of_lt (Nat.mul_le_mul_right _ (by omega)) h7
    · exact Nat.mul_pos (h1 _ (ixG_mem (l := a) (i := 0) (by omega))).1 (h2 _ (ixG_mem (l := b) (i := 0) (by omega))).1
/-- the law's own tops -/
theorem hl_pb {w : List Rat} (h : WkOk w) : Pb (((hgtF w (w.length + 1)).den : Int), (hgtF w (w.length + 1)).num) := by
  have q := hgt_qk h (Nat.le_refl _)
  have p := num_pos1 (hgt_pos h w.length)
  exact ⟨Nat.lt_of_le_of_lt (show _ ≤ 2 ^ 160 from q.2) (Nat.pow_lt_pow_right (by decide) (by decide)), by show (hgtF w (w.length + 1)).num ≠ 0; omega, Nat.lt_of_le_of_lt q.1 (Nat.pow_lt_pow_right (by decide) (by decide))⟩
theorem qv_inv (r : Rat) : qv ((r.den : Int), r.num) = 1 / r := by
  unfold qv
  have h := q_div 1 r
  have e1 : ((1 : Rat).num) = 1 := rfl
  have e2 : ((1 : Rat).den) = 1 := rfl
  rw [e1, e2] at h
  rw [← h]
  simp
theorem ltop_ret (w : List Rat) : eT eQ (((List.range (w.length + 2)).map (hgtF w)).map fun x => x * qv (((ixG ((List.range (w.length + 2)).map (hgtF w)) (-1)).den : Int), (ixG ((List.range (w.length + 2)).map (hgtF w)) (-1)).num)) = eT eQ (topsF w) := by
  rw [last_rng, qv_inv, List.map_map]
  refine congrArg (eT eQ) (List.map_congr_left fun k _ => ?_)
  show hgtF w k * (1 / hgtF w (w.length + 1)) = hgtF w k / hgtF w (w.length + 1)
  rw [Rat.div_def, Rat.div_def, Rat.one_mul]
end Nz

set_option exponentiation.threshold 10000
/-! walks: rows of chances against functions of the places -/
namespace Nz
open PySem PySem.Spec PyProof.Rows L2 RZ
theorem sum_rng (f : Nat → Rat) : ∀ n, ((List.range n).map f).sum = sumTo f n
  | 0 => rfl
  | n + 1 => by
    rw [List.range_succ, List.map_append, List.sum_append, sum_rng f n]
    show sumTo f n + (f n + 0) = sumTo f n + f n
    rw [Rat.add_zero]
theorem sumTo_zero {f : Nat → Rat} {n : Nat} (h : ∀ i, i < n → f i = 0) : sumTo f n = 0 := by
  induction n with
  | zero => rfl
  | succ n ih => rw [sumTo, ih (fun i hi => h i (by omega)), h n (by omega), Rat.add_zero]
theorem sum_one (x : Rat) (g : Nat → Rat) (a : Nat) : ∀ m, sumTo (fun j => (if j = a then x else 0) * g j) m = if a < m then x * g a else 0
  | 0 => rfl
  | m + 1 => by
    rw [sumTo, sum_one x g a m]
    by_cases h : a < m
    · rw [if_pos h, if_neg (show ¬ m = a by omega), if_pos (show a < m + 1 by omega)]
      grind
    · rw [if_neg h]
      by_cases e : m = a
      · subst e
        rw [if_pos rfl, if_pos (show m < m + 1 by omega)]
        grind
      · rw [if_neg e, if_neg (show ¬ a < m + 1 by omega)]
        grind
theorem sum_split (h : Nat → Rat) : ∀ n, sumTo h (n + 1) = h 0 + sumTo (fun a => h (a + 1)) n
  | 0 => by
    show 0 + h 0 = h 0 + 0
    grind
  | n + 1 => by
    rw [sumTo, sum_split h n, sumTo]
    grind
theorem sum_ends (h : Nat → Rat) (n : Nat) : sumTo h (n + 2) = h 0 + sumTo (fun a => h (a + 1)) n + h (n + 1) := by
  rw [sumTo, sum_split]
/-- a row against a function of the places -/
def ip (w : List Rat) (f g : Nat → Rat) : Rat := sumTo (fun j => f j * g j) (w.length + 2)
theorem ip_eq {w : List Rat} {f g g' : Nat → Rat} (h : ∀ j, j < w.length + 2 → g j = g' j) : ip w f g = ip w f g' := sumTo_eq fun j hj => by rw [h j hj]
theorem fur_ip {w : List Rat} (f g : Nat → Rat) : ∀ i, i ≤ w.length → sumTo (fun j => furF w f i j * g j) (w.length + 2) = f 0 * g 0 + f (w.length + 1) * g (w.length + 1) + sumTo (fun a => f (a + 1) * mixF (cw w a) (g a) (g (a + 2))) i
  | 0, _ => by
    have e : ∀ j, j < w.length + 2 → furF w f 0 j * g j = (if j = 0 then f 0 else 0) * g j + (if j = w.length + 1 then f (w.length + 1) else 0) * g j := fun j hj => by
      show (if j = 0 then f 0 else if j = w.length + 1 then f (w.length + 1) else 0) * g j = _
      by_cases h0 : j = 0
      · rw [if_pos h0, if_pos h0, if_neg (by omega)]; grind
      · rw [if_neg h0, if_neg h0]; grind
    rw [sumTo_eq e, sumTo_add, sum_one, sum_one, if_pos (by omega), if_pos (by omega), sumTo]
    grind
  | i + 1, hi => by
    have e : ∀ j, j < w.length + 2 → furF w f (i + 1) j * g j = furF w f i j * g j + ((if j = i then f (i + 1) * (1 - cw w i) else 0) * g j + (if j = i + 2 then f (i + 1) * cw w i else 0) * g j) := fun j hj => by
      show (furF w f i j + (if j = i then f (i + 1) * (1 - cw w i) else 0) + (if j = i + 2 then f (i + 1) * cw w i else 0)) * g j = _
      grind
    rw [sumTo_eq e, sumTo_add, sumTo_add, fur_ip f g i (by omega), sum_one, sum_one, if_pos (by omega), if_pos (by omega), sumTo]
    unfold mixF
    grind
/-- what a function is a step later -/
def adjF (w : List Rat) (g : Nat → Rat) : Nat → Rat := fun k => if k = 0 then g 0 else if k = w.length + 1 then g (w.length + 1) else mixF (cw w (k - 1)) (g (k - 1)) (g (k + 1))
theorem adj_mid {w : List Rat} (g : Nat → Rat) {a : Nat} (h : a < w.length) : adjF w g (a + 1) = mixF (cw w a) (g a) (g (a + 2)) := by
  unfold adjF
  rw [if_neg (by omega), if_neg (by omega)]
  rfl
theorem st_ip (w : List Rat) (f g : Nat → Rat) : ip w (stF w f) g = ip w f (adjF w g) := by
  unfold ip stF
  rw [fur_ip f g _ (Nat.le_refl _), sum_ends]
  have e1 : adjF w g 0 = g 0 := if_pos rfl
  have e2 : adjF w g (w.length + 1) = g (w.length + 1) := by
    unfold adjF
    rw [if_neg (by omega), if_pos rfl]
  rw [e1, e2, sumTo_eq fun a ha => by rw [← adj_mid g ha]]
  grind
def adjI (w : List Rat) : Nat → (Nat → Rat) → Nat → Rat
  | 0, g => g
  | s + 1, g => adjI w s (adjF w g)
theorem it_ip (w : List Rat) (f : Nat → Rat) : ∀ s g, ip w (itF w s f) g = ip w f (adjI w s g)
  | 0, _ => rfl
  | s + 1, g => by
    show ip w (stF w (itF w s f)) g = ip w f (adjI w s (adjF w g))
    rw [st_ip, it_ip w f s]
theorem it_add (w : List Rat) (f : Nat → Rat) (h : Nat) : ∀ s, itF w (s + h) f = itF w s (itF w h f)
  | 0 => by rw [Nat.zero_add]; rfl
  | s + 1 => by
    rw [show s + 1 + h = (s + h) + 1 by omega]
    show stF w (itF w (s + h) f) = stF w (itF w s (itF w h f))
    rw [it_add w f h s]
theorem ip_dl {w : List Rat} (g : Nat → Rat) {p : Nat} (h : p < w.length + 2) : ip w (dl p) g = g p := by
  unfold ip dl
  rw [sum_one, if_pos h, Rat.one_mul]
theorem ip_dr {w : List Rat} (f : Nat → Rat) {p : Nat} (h : p < w.length + 2) : ip w f (dl p) = f p := by
  unfold ip dl
  rw [sumTo_eq (g := fun j => (if j = p then f p else 0) * 1) fun j _ => by
    by_cases e : j = p
    · rw [if_pos e, if_pos e, e]
    · rw [if_neg e, if_neg e]; grind]
  rw [sum_one, if_pos h, Rat.mul_one]
/-- by way of the places in between -/
theorem it_way (w : List Rat) (f : Nat → Rat) (s : Nat) {a : Nat} (ha : a < w.length + 2) : itF w s f a = sumTo (fun j => f j * itF w s (dl j) a) (w.length + 2) := by
  rw [← ip_dr (w := w) (itF w s f) ha, it_ip]
  unfold ip
  refine sumTo_eq fun j hj => ?_
  rw [← ip_dl (w := w) (adjI w s (dl a)) hj, ← it_ip, ip_dr _ ha]
/-- what is the mean of its neighbours stays -/
theorem it_harm {w : List Rat} {g : Nat → Rat} (h : ∀ a, a < w.length → mixF (cw w a) (g a) (g (a + 2)) = g (a + 1)) (f : Nat → Rat) : ∀ t, ip w (itF w t f) g = ip w f g
  | 0 => rfl
  | t + 1 => by
    show ip w (stF w (itF w t f)) g = _
    rw [st_ip, ip_eq (g' := g) fun j hj => ?_, it_harm h f t]
    unfold adjF
    by_cases h0 : j = 0
    · rw [if_pos h0, h0]
    · rw [if_neg h0]
      by_cases h1 : j = w.length + 1
      · rw [if_pos h1, h1]
      · rw [if_neg h1]
        have := h (j - 1) (by omega)
        rw [show j - 1 + 2 = j + 1 by omega, show j - 1 + 1 = j by omega] at this
        exact this
/-- the places in between -/
def midS (w : List Rat) (f : Nat → Rat) : Rat := sumTo (fun a => f (a + 1)) w.length
theorem it_lose {w : List Rat} {g : Nat → Rat} (h : ∀ a, a < w.length → 1 + mixF (cw w a) (g a) (g (a + 2)) = g (a + 1)) (f : Nat → Rat) : ∀ t, ip w (itF w t f) g + sumTo (fun s => midS w (itF w s f)) t = ip w f g
  | 0 => by
    show ip w f g + 0 = _
    rw [Rat.add_zero]
  | t + 1 => by
    have key : ip w (stF w (itF w t f)) g = ip w (itF w t f) g - midS w (itF w t f) := by
      rw [st_ip]
      unfold ip midS
      rw [sum_ends, sum_ends]
      have e1 : adjF w g 0 = g 0 := if_pos rfl
      have e2 : adjF w g (w.length + 1) = g (w.length + 1) := by
        unfold adjF
        rw [if_neg (by omega), if_pos rfl]
      have e3 : ∀ a, a < w.length → itF w t f (a + 1) * g (a + 1) = itF w t f (a + 1) * adjF w g (a + 1) + itF w t f (a + 1) := fun a ha => by
        rw [adj_mid g ha, ← h a ha]
        grind
      rw [e1, e2, sumTo_eq e3, sumTo_add]
      grind
    have ih := it_lose h f t
    show ip w (stF w (itF w t f)) g + (sumTo (fun s => midS w (itF w s f)) t + midS w (itF w t f)) = _
    rw [key, ← ih]
    grind
/-! ### never below 0 -/
theorem fur_nn {w : List Rat} (h : WkOk w) {f : Nat → Rat} (hf : ∀ j, 0 ≤ f j) : ∀ i j, 0 ≤ furF w f i j
  | 0, j => by
    show 0 ≤ (if j = 0 then f 0 else if j = w.length + 1 then f (w.length + 1) else 0)
    split
    · exact hf _
    · split
      · exact hf _
      · exact Rat.le_refl
  | i + 1, j => by
    have c := (cw_ok h i).1
    have h1 : 0 ≤ f (i + 1) * (1 - cw w i) := Rat.mul_nonneg (hf _) (by have := c.2; grind)
    have h2 : 0 ≤ f (i + 1) * cw w i := Rat.mul_nonneg (hf _) (Rat.le_of_lt c.1)
    have h3 := fur_nn h hf i j
    show 0 ≤ furF w f i j + (if j = i then f (i + 1) * (1 - cw w i) else 0) + (if j = i + 2 then f (i + 1) * cw w i else 0)
    generalize f (i + 1) * (1 - cw w i) = x at *
    generalize f (i + 1) * cw w i = y at *
    generalize furF w f i j = z at *
    split <;> split <;> grind
theorem it_nn {w : List Rat} (h : WkOk w) (p : Nat) : ∀ t j, 0 ≤ itF w t (dl p) j
  | 0, j => by
    show 0 ≤ (if j = p then (1 : Rat) else 0)
    split <;> decide +kernel
  | t + 1, j => fur_nn h (it_nn h p t) _ j
/-! ### what the law's texts say -/
theorem beh_at {w : List Rat} {p t : Nat} {k : Int} (h : 0 ≤ k ∧ k < (w.length : Int) + 2) : ixG (behF w p t) k = itF w t (dl p) k.toNat := row_at h
theorem beh_len (w : List Rat) (p t : Nat) : (behF w p t).length = w.length + 2 := rowL_len _ _
def topT (w : List Rat) (k : Nat) : Rat := hgtF w k / hgtF w (w.length + 1)
def stpT (w : List Rat) (k : Nat) : Rat := lowF w k + firF w * hgtF w k
theorem tops_row (w : List Rat) : topsF w = rowL w (topT w) := rfl
theorem steps_row (w : List Rat) : stepsF w = rowL w (stpT w) := rfl
theorem mean_row (w : List Rat) (f g : Nat → Rat) : meanF (rowL w f) (rowL w g) = ip w f g := by
  unfold meanF ip
  rw [rowL_len, sum_rng]
  refine sumTo_eq fun j hj => ?_
  rw [row_at (by omega), row_at (by omega)]
  rfl
theorem sum_row (w : List Rat) (f : Nat → Rat) : (rowL w f).sum = ip w f (fun _ => 1) := by
  unfold ip rowL
  rw [sum_rng]
  exact sumTo_eq fun j _ => (Rat.mul_one _).symm
theorem mid_row (w : List Rat) (f : Nat → Rat) : (cutX (rowL w f) (some 1) (some (-1))).sum = midS w f := by
  have e1 : cutX (rowL w f) (some 1) (some (-1)) = (List.range w.length).map fun a => f (a + 1) := by
    unfold cutX
    have i0 : HT.sIx (rowL w f).length 0 (some 1) = 1 := by
      unfold HT.sIx
      simp [rowL_len]
    have i1 : HT.sIx (rowL w f).length (rowL w f).length (some (-1)) = w.length + 1 := by
      unfold HT.sIx
      simp [rowL_len]
      omega
    rw [i0, i1]
    unfold rowL
    rw [List.range_succ, List.range_succ_eq_map, List.map_append, List.map_cons, List.map_map]
    simp
  rw [e1, sum_rng]
  rfl
theorem filt_sum {α : Type} {p : α → Bool} {f : α → Rat} : ∀ {l : List α}, (∀ x ∈ l, p x = false → f x = 0) → ((l.filter p).map f).sum = (l.map f).sum
  | [], _ => rfl
  | a :: l, h => by
    have ih := filt_sum (p := p) (f := f) (l := l) fun x hx => h x (List.mem_cons_of_mem _ hx)
    cases e : p a with
    | true => rw [List.filter_cons_of_pos e, List.map_cons, List.sum_cons, ih, List.map_cons, List.sum_cons]
    | false => rw [List.filter_cons_of_neg (by rw [e]; decide), ih, List.map_cons, List.sum_cons, h a (List.mem_cons_self ..) e, Rat.zero_add]
end Nz

set_option exponentiation.threshold 10000
/-! walks: tops and steps are means of their neighbours'; halves -/
namespace Nz
open PySem PySem.Spec PyProof.Rows L2 RZ
theorem sp_ne {c : Rat} (h : SpOk c) : c ≠ 0 := pos_ne h.1.1
theorem gap_next (w : List Rat) (h : WkOk w) (k : Nat) : cw w k * gapF w (k + 1) = (1 - cw w k) * gapF w k := by
  have := sp_ne (cw_ok h k)
  show cw w k * (gapF w k * ((1 - cw w k) / cw w k)) = _
  generalize cw w k = c at *
  grind
theorem slo_next (w : List Rat) (h : WkOk w) (k : Nat) : cw w k * sloF w (k + 1) = (1 - cw w k) * sloF w k - 1 := by
  have := sp_ne (cw_ok h k)
  show cw w k * (sloF w k * ((1 - cw w k) / cw w k) - 1 / cw w k) = _
  generalize cw w k = c at *
  grind
theorem hgt_mix {w : List Rat} (h : WkOk w) (k : Nat) : mixF (cw w k) (hgtF w k) (hgtF w (k + 2)) = hgtF w (k + 1) := by
  have e := gap_next w h k
  have e1 : hgtF w (k + 2) = hgtF w (k + 1) + gapF w (k + 1) := rfl
  have e2 : hgtF w (k + 1) = hgtF w k + gapF w k := rfl
  unfold mixF
  rw [e1, e2]
  grind
theorem low_mix {w : List Rat} (h : WkOk w) (k : Nat) : 1 + mixF (cw w k) (lowF w k) (lowF w (k + 2)) = lowF w (k + 1) := by
  have e := slo_next w h k
  have e1 : lowF w (k + 2) = lowF w (k + 1) + sloF w (k + 1) := rfl
  have e2 : lowF w (k + 1) = lowF w k + sloF w k := rfl
  unfold mixF
  rw [e1, e2]
  grind
theorem top_mix {w : List Rat} (h : WkOk w) (k : Nat) : mixF (cw w k) (topT w k) (topT w (k + 2)) = topT w (k + 1) := by
  have e := hgt_mix h k
  unfold topT mixF at *
  rw [Rat.div_def, Rat.div_def, Rat.div_def]
  generalize (hgtF w (w.length + 1))⁻¹ = z
  rw [← e]
  grind
theorem stp_mix {w : List Rat} (h : WkOk w) (k : Nat) : 1 + mixF (cw w k) (stpT w k) (stpT w (k + 2)) = stpT w (k + 1) := by
  have e := hgt_mix h k
  have e2 := low_mix h k
  unfold stpT
  unfold mixF at *
  rw [← e, ← e2]
  grind
theorem top_0 (w : List Rat) : topT w 0 = 0 := by
  show 0 / hgtF w (w.length + 1) = 0
  rw [Rat.div_def, Rat.zero_mul]
theorem top_n {w : List Rat} (h : WkOk w) : topT w (w.length + 1) = 1 := by
  have := hgt_ne h w.length
  unfold topT
  generalize hgtF w (w.length + 1) = z at *
  grind
theorem stp_0 (w : List Rat) : stpT w 0 = 0 := by
  show 0 + firF w * 0 = 0
  grind
theorem stp_n {w : List Rat} (h : WkOk w) : stpT w (w.length + 1) = 0 := by
  have := hgt_ne h w.length
  unfold stpT firF
  generalize hgtF w (w.length + 1) = z at *
  grind
/-! ### sums' sizes -/
theorem beh_bd {w : List Rat} (h : WkOk w) {p t : Nat} {r : Rat} (hr : r ∈ behF w p t) : Bd ((64 * LL) ^ t) (LL ^ t) r := by
  obtain ⟨k, _, rfl⟩ := List.mem_map.mp hr
  exact it_bd h p t k
theorem p4400 {a b : Nat} (h : a ≤ 2 ^ b) (hb : b < 4400) : a < 2 ^ 4400 := Nat.lt_of_le_of_lt h (Nat.pow_lt_pow_right (by decide) hb)
theorem beh_pre {w : List Rat} (h : WkOk w) {p t : Nat} (ht : t ≤ 40) {l : List Rat} (hl : ∀ r ∈ l, r ∈ behF w p t) (hn : l.length ≤ 32) : ∃ M D, (∀ r ∈ l, Bd M D r) ∧ (l.length + 1) * M < 2 ^ 4400 ∧ 0 < D ∧ D < 2 ^ 4400 := by
  obtain ⟨q1, q2, q3⟩ := LLp ht
  exact ⟨(64 * LL) ^ t, LL ^ t, fun r hr => beh_bd h (hl r hr), p4400 (b := 2130) (Nat.le_trans (Nat.mul_le_mul (show l.length + 1 ≤ 2 ^ 6 by omega) q1) (by rw [← Nat.pow_add]; exact Nat.pow_le_pow_right (by decide) (by decide))) (by decide), q3, p4400 (b := 1880) q2 (by decide)⟩
theorem mean_ok {w : List Rat} (h : WkOk w) {p t : Nat} (ht : t ≤ 40) {l : List Rat} {D : Nat} (hl : ∀ r ∈ l, Bd (2 ^ 500) D r) (hD : D ≤ 2 ^ 480) : MeanOk (behF w p t) l := by
  obtain ⟨q1, q2, q3⟩ := LLp ht
  refine ⟨(64 * LL) ^ t, LL ^ t, 2 ^ 500, D, fun r hr => beh_bd h hr, hl, p4400 q1 (by decide), Nat.pow_lt_pow_right (by decide) (by decide), p4400 q2 (by decide), p4400 hD (by decide), ?_, ?_⟩
  · exact p4400 (b := 2630) (Nat.le_trans (Nat.mul_le_mul (show 33 ≤ 2 ^ 6 by decide) (Nat.mul_le_mul_right _ q1)) (by rw [← Nat.pow_add, ← Nat.pow_add]; exact Nat.pow_le_pow_right (by decide) (by decide))) (by decide)
  · exact p4400 (b := 2400) (Nat.le_trans (Nat.mul_le_mul q2 hD) (by rw [← Nat.pow_add]; exact Nat.pow_le_pow_right (by decide) (by decide))) (by decide)
theorem mean_ok_steps {w : List Rat} (h : WkOk w) {p t : Nat} (ht : t ≤ 40) : MeanOk (behF w p t) (stepsF w) :=
  mean_ok h ht (fun r hr => by
    obtain ⟨k, hk, rfl⟩ := List.mem_map.mp hr
    have := List.mem_range.mp hk
    exact stp_bd h (by omega)) (stp_D h).2
theorem mean_ok_tops {w : List Rat} (h : WkOk w) {p t : Nat} (ht : t ≤ 40) : MeanOk (behF w p t) (topsF w) :=
  mean_ok h ht (fun r hr => by
    obtain ⟨k, hk, rfl⟩ := List.mem_map.mp hr
    have := List.mem_range.mp hk
    exact top_bd h (by omega)) (top_D h).2
theorem mean_qb {a b : List Rat} (hl : a.length = b.length ∧ b.length ≤ 32) (h : MeanOk a b) : Qb (meanF a b) := by
  obtain ⟨M, D, h1, h2, h3, h4⟩ := mean_pre hl h
  rw [show (((b.length : Int)).toNat) = b.length by omega] at *
  exact (Bd_sum h3 h1).qb (Nat.lt_of_le_of_lt (Nat.mul_le_mul_right _ (Nat.le_succ _)) h2) h4
/-! ### halves -/
def innF (w : List Rat) (p : Nat) : Nat → Rat
  | 0 => 0
  | i + 1 => innF w p i + midS w (itF w i (dl p))
theorem inn_step {w : List Rat} {p n i x : Nat} (h : (List.range n)[i]? = some x) : innF w p i + (cutX (behF w p ((x : Int)).toNat) (some 1) (some (-1))).sum = innF w p (i + 1) := by
  obtain ⟨rfl, _⟩ := rng_get h
  rw [show ((x : Int)).toNat = x by omega]
  unfold behF
  rw [mid_row]
  rfl
theorem inn_sum (w : List Rat) (p : Nat) : ∀ n, innF w p n = sumTo (fun s => midS w (itF w s (dl p))) n
  | 0 => rfl
  | n + 1 => by
    show innF w p n + _ = _ + _
    rw [inn_sum w p n]
theorem it_bd8 {w : List Rat} (h : WkOk w) (p : Nat) {t : Nat} (ht : t ≤ 8) (j : Nat) : Bd ((64 * LL) ^ 8) (LL ^ 8) (itF w t (dl p) j) := by
  have b := Bd_lift (it_bd h p t j) (k := LL ^ (8 - t)) (Nat.pow_pos LL_pos)
  rw [← Nat.pow_add, show t + (8 - t) = 8 by omega] at b
  refine b.mono ?_
  rw [show (64 * LL) ^ 8 = (64 * LL) ^ t * (64 * LL) ^ (8 - t) by rw [← Nat.pow_add, show t + (8 - t) = 8 by omega]]
  exact Nat.mul_le_mul_left _ (Nat.pow_le_pow_left (by decide) _)
theorem sumTo_bd {f : Nat → Rat} {M D : Nat} (hD : 0 < D) : ∀ n, (∀ i, i < n → Bd M D (f i)) → Bd (n * M) D (sumTo f n)
  | 0, _ => Bd_zero hD
  | n + 1, h => by
    rw [Nat.add_mul, Nat.one_mul]
    exact Bd_add (sumTo_bd hD n fun i hi => h i (by omega)) (h n (by omega))
theorem inn_qb {w : List Rat} (h : WkOk w) (p : Nat) {n : Nat} (hn : n ≤ 8) : Qb (innF w p n) := by
  rw [inn_sum]
  have h30 := h.1.2
  have b := sumTo_bd (f := fun s => midS w (itF w s (dl p))) (M := 30 * (64 * LL) ^ 8) (D := LL ^ 8) (Nat.pow_pos LL_pos) n fun s hs =>
    (sumTo_bd (f := fun a => itF w s (dl p) (a + 1)) (Nat.pow_pos LL_pos) w.length fun a _ => it_bd8 h p (by omega) (a + 1)).mono (Nat.mul_le_mul_right _ h30)
  exact b.qb (Nat.lt_of_le_of_lt (Nat.mul_le_mul_right _ hn) (p4400 (b := 500) (by decide +kernel) (by decide))) (p4400 (b := 400) (by decide +kernel) (by decide))
theorem cut_mem {α : Type} {l : List α} {a b : Option Int} {x : α} (h : x ∈ cutX l a b) : x ∈ l := List.mem_of_mem_drop (List.mem_of_mem_take h)
theorem cut_sz {α : Type} (l : List α) (a b : Option Int) : (cutX l a b).length ≤ l.length := by
  unfold cutX
  rw [List.length_take, List.length_drop]
  omega
theorem mid_pre {w : List Rat} (h : WkOk w) {p t : Nat} (ht : t ≤ 40) : ∃ M D, (∀ r ∈ cutX (behF w p t) (some 1) (some (-1)), Bd M D r) ∧ ((cutX (behF w p t) (some 1) (some (-1))).length + 1) * M < 2 ^ 4400 ∧ 0 < D ∧ D < 2 ^ 4400 :=
  beh_pre h ht (fun r hr => cut_mem hr) (Nat.le_trans (cut_sz _ _ _) (by rw [beh_len]; have := h.1.2; omega))
theorem mid_qb {w : List Rat} (h : WkOk w) {p t : Nat} (ht : t ≤ 40) : Qb (cutX (behF w p t) (some 1) (some (-1))).sum := by
  obtain ⟨M, D, h1, h2, h3, h4⟩ := mid_pre h (p := p) ht
  exact (Bd_sum h3 h1).qb (Nat.lt_of_le_of_lt (Nat.mul_le_mul_right _ (Nat.le_succ _)) h2) h4
theorem lose {w : List Rat} (h : WkOk w) {p : Nat} (hp : p < w.length + 2) (t : Nat) : innF w p t + meanF (behF w p t) (stepsF w) = stpT w p := by
  rw [inn_sum, steps_row]
  unfold behF
  rw [mean_row, Rat.add_comm, it_lose fun a _ => stp_mix h a, ip_dl _ hp]
theorem half_if {w : List Rat} (h : WkOk w) {p t : Int} (hp : 0 ≤ p ∧ p ≤ (w.length : Int) + 1) : ¬ (!decide (innF w p.toNat (List.range t.toNat).length + meanF (behF w p.toNat t.toNat) (stepsF w) = ixG (stepsF w) p)) = true := by
  rw [List.length_range, lose h (by omega), steps_row, row_at (by omega)]
  simp
theorem num_nn {r : Rat} (h : 0 ≤ r) (hn : decide ((0 : Int) < r.num) = false) : r = 0 := by
  have h1 := of_decide_eq_false hn
  have h2 : 0 ≤ r.num := Rat.num_nonneg.mpr h
  exact Rat.num_eq_zero.mp (by omega)
theorem half_ret {w : List Rat} (h : WkOk w) {p t hf a : Int} (hp : 0 ≤ p ∧ p ≤ (w.length : Int) + 1) (hh : 0 ≤ hf ∧ hf < t + 1) (ha : 0 ≤ a ∧ a < (w.length : Int) + 2) :
    decide ((((List.range (((behF w p.toNat hf.toNat).length : Int)).toNat).filter fun (x : Nat) => decide ((0 : Int) < (ixG (behF w p.toNat hf.toNat) (x : Int)).num)).map fun (x : Nat) => ixG (behF w p.toNat hf.toNat) (x : Int) * ixG (behF w ((x : Int)).toNat (t - hf).toNat) a).sum = ixG (behF w p.toNat t.toNat) a) = true := by
  apply decide_eq_true
  rw [beh_len, show (((w.length + 2 : Nat) : Int)).toNat = w.length + 2 by omega, filt_sum, sum_rng, beh_at ha]
  · rw [show t.toNat = (t - hf).toNat + hf.toNat by omega, it_add, it_way w _ _ (by omega)]
    refine sumTo_eq fun j hj => ?_
    rw [beh_at (by omega), beh_at ha]
    rfl
  · intro x hx hn
    have hx := List.mem_range.mp hx
    rw [beh_at (by omega)] at hn ⊢
    rw [num_nn (it_nn h _ _ _) hn, Rat.zero_mul]
theorem beh_qb {w : List Rat} (h : WkOk w) {p t : Nat} (ht : t ≤ 40) {k : Int} (hk : 0 ≤ k ∧ k < (w.length : Int) + 2) : Qb (ixG (behF w p t) k) := by
  rw [beh_at hk]
  exact (it_qk h ht _).qb (by decide)
theorem part_pre {w : List Rat} (h : WkOk w) {p t hf a : Int} (ht : 0 ≤ t ∧ t < 8) (hh : 0 ≤ hf ∧ hf < t + 1) (ha : 0 ≤ a ∧ a < (w.length : Int) + 2) :
    ∃ M D, (∀ r ∈ ((List.range (((behF w p.toNat hf.toNat).length : Int)).toNat).filter fun (x : Nat) => decide ((0 : Int) < (ixG (behF w p.toNat hf.toNat) (x : Int)).num)).map fun (x : Nat) => ixG (behF w p.toNat hf.toNat) (x : Int) * ixG (behF w ((x : Int)).toNat (t - hf).toNat) a, Bd M D r) ∧
      ((((List.range (((behF w p.toNat hf.toNat).length : Int)).toNat).filter fun (x : Nat) => decide ((0 : Int) < (ixG (behF w p.toNat hf.toNat) (x : Int)).num)).map fun (x : Nat) => ixG (behF w p.toNat hf.toNat) (x : Int) * ixG (behF w ((x : Int)).toNat (t - hf).toNat) a).length + 1) * M < 2 ^ 4400 ∧ 0 < D ∧ D < 2 ^ 4400 := by
  refine ⟨(64 * LL) ^ 8 * (64 * LL) ^ 8, LL ^ 8 * LL ^ 8, fun r hr => ?_, ?_, Nat.mul_pos (Nat.pow_pos LL_pos) (Nat.pow_pos LL_pos), p4400 (b := 800) (by decide +kernel) (by decide)⟩
  · obtain ⟨x, hx, rfl⟩ := List.mem_map.mp hr
    have hx := List.mem_range.mp ((List.mem_filter.mp hx).1)
    rw [beh_len] at hx
    rw [beh_at (by omega), beh_at ha]
    exact Bd_mul (it_bd8 h _ (by omega) _) (it_bd8 h _ (by omega) _)
  · rw [List.length_map]
    have h1 := List.length_filter_le (fun (x : Nat) => decide ((0 : Int) < (ixG (behF w p.toNat hf.toNat) (x : Int)).num)) (List.range (((behF w p.toNat hf.toNat).length : Int)).toNat)
    rw [List.length_range, beh_len] at h1
    have h30 := h.1.2
    rw [beh_len]
    exact Nat.lt_of_le_of_lt (Nat.mul_le_mul_right _ (show _ ≤ 64 by omega)) (p4400 (b := 900) (by decide +kernel) (by decide))
end Nz

set_option exponentiation.threshold 10000
/-! walks: what the law asks of them -/
namespace Nz
open PySem PySem.Spec PyProof.Rows L2 RZ
theorem tops_len (w : List Rat) : (topsF w).length = w.length + 2 := rowL_len _ _
theorem steps_len (w : List Rat) : (stepsF w).length = w.length + 2 := rowL_len _ _
theorem tops_qk {w : List Rat} (h : WkOk w) : ∀ r ∈ topsF w, Qk 660 r := fun r hr => by
  obtain ⟨k, hk, rfl⟩ := List.mem_map.mp hr
  have := List.mem_range.mp hk
  exact (top_qk h (by omega)).mono (by decide)
theorem steps_qk {w : List Rat} (h : WkOk w) : ∀ r ∈ stepsF w, Qk 660 r := fun r hr => by
  obtain ⟨k, hk, rfl⟩ := List.mem_map.mp hr
  have := List.mem_range.mp hk
  exact stp_qk h (by omega)
theorem rows_gd {l : List Rat} (h : ∀ r ∈ l, Qk 660 r) (hn : l.length ≤ 32) : Gd 20 15000000 (eT eQ l) :=
  (gd_T (fun r hr => (h r hr).gd (by decide)) hn).mono (by decide) (by decide)
theorem two_gd {a b : List Rat} (ha : ∀ r ∈ a, Qk 660 r) (hb : ∀ r ∈ b, Qk 660 r) (hn : a.length ≤ 32) (hm : b.length ≤ 32) : Gd 20 15000000 (eL (eT eQ) [a, b]) := by
  refine (gd_L (n := 2) (k := 2) (len := (1209 + 2) * 32 + 3) (fun x hx => ?_) (by simp)).mono (by decide) (by decide)
  rcases mem2 hx with e | e
  · rw [e]; exact gd_T (fun r hr => (ha r hr).gd (by decide)) hn
  · rw [e]; exact gd_T (fun r hr => (hb r hr).gd (by decide)) hm
/-! ### rows that are accepted, and not -/
theorem topAt_row (w : List Rat) (f : Nat → Rat) {j : Nat} (hj : j < w.length) : topWAt w (rowL w f) j = decide (mixF (cw w j) (f j) (f (j + 2)) = f (j + 1)) := by
  unfold topWAt
  rw [row_at (by omega), row_at (by omega), row_at (by omega)]
  rfl
theorem stepAt_row (w : List Rat) (f : Nat → Rat) {j : Nat} (hj : j < w.length) : stepWAt w (rowL w f) j = decide (1 + mixF (cw w j) (f j) (f (j + 2)) = f (j + 1)) := by
  unfold stepWAt
  rw [row_at (by omega), row_at (by omega), row_at (by omega)]
  rfl
theorem row_0 (w : List Rat) (f : Nat → Rat) : ixG (rowL w f) (0 : Int) = f 0 := row_at (by omega)
theorem top_none {w : List Rat} (h : WkOk w) : topW w (topsF w) = none := by
  unfold topW
  rw [tops_row, row_0, row_last, top_0, top_n h, if_neg (by simp), if_pos]
  exact List.all_eq_true.mpr fun j hj => by
    rw [topAt_row w _ (List.mem_range.mp hj)]
    exact decide_eq_true (top_mix h j)
theorem step_none {w : List Rat} (h : WkOk w) : stepW w (stepsF w) = none := by
  unfold stepW
  rw [steps_row, row_0, row_last, stp_0, stp_n h, if_neg (by simp), if_pos]
  exact List.all_eq_true.mpr fun j hj => by
    rw [stepAt_row w _ (List.mem_range.mp hj)]
    exact decide_eq_true (stp_mix h j)
theorem first_if {w : List Rat} (h : WkOk w) : ¬ ((!true) || ((!decide ((topW w (topsF w)).getD "" = (Str.ofString ""))) || (!decide ((stepW w (stepsF w)).getD "" = (Str.ofString ""))))) = true := by
  rw [top_none h, step_none h]
  simp
def bumpL (l : List Rat) (a : Int) : List Rat := (cutX l none (some a) ++ [ixG l a + qv ((1 : Int), (7 : Int))]) ++ cutX l (some (a + 1)) none
def bumpF (f : Nat → Rat) (a : Nat) : Nat → Rat := fun j => if j = a then f j + 1 / 7 else f j
theorem qv7 : qv ((1 : Int), (7 : Int)) = 1 / 7 := by decide +kernel
theorem bump_row (w : List Rat) (f : Nat → Rat) {a : Int} (ha : 0 ≤ a ∧ a < (w.length : Int) + 2) : bumpL (rowL w f) a = rowL w (bumpF f a.toNat) := by
  unfold bumpL
  rw [row_at ha, qv7]
  have hl := rowL_len w f
  have e1 := (cut_back (rowL w f) a (by omega)).2
  have e2 := (cut_back (rowL w f) (a + 1) (by omega)).1
  rw [e1, e2]
  apply List.ext_getElem?
  intro k
  have hla : ((rowL w f).take a.toNat).length = a.toNat := by rw [List.length_take]; omega
  have hk0 : ∀ g : Nat → Rat, (rowL w g)[k]? = if k < w.length + 2 then some (g k) else none := fun g => by
    unfold rowL
    rw [List.getElem?_map]
    by_cases hk : k < w.length + 2
    · rw [if_pos hk, List.getElem?_range hk]; rfl
    · rw [if_neg hk, List.getElem?_eq_none (by simp; omega)]; rfl
  rw [hk0]
  rcases Nat.lt_trichotomy k a.toNat with h | h | h
  · rw [List.getElem?_append_left (by rw [List.length_append, hla]; simp; omega), List.getElem?_append_left (by omega), List.getElem?_take_of_lt h, hk0]
    unfold bumpF
    rw [if_neg (show ¬ k = a.toNat by omega)]
  · rw [List.getElem?_append_left (by rw [List.length_append, hla]; simp; omega), List.getElem?_append_right (by omega), hla, h]
    unfold bumpF
    rw [if_pos rfl, if_pos (by omega)]
    simp
  · rw [List.getElem?_append_right (by rw [List.length_append, hla]; simp; omega), List.getElem?_drop, List.length_append, hla]
    have : (a + 1).toNat + (k - (a.toNat + [f a.toNat + 1 / 7].length)) = k := by simp; omega
    rw [this, hk0]
    unfold bumpF
    rw [if_neg (show ¬ k = a.toNat by omega)]
theorem seven : Qk 3 (1 / 7) := ⟨by decide +kernel, by decide +kernel⟩
theorem bump_qk {w : List Rat} {f : Nat → Rat} (h : ∀ r ∈ rowL w f, Qk 660 r) (a : Nat) : ∀ r ∈ rowL w (bumpF f a), Qk 700 r := fun r hr => by
  obtain ⟨k, hk, rfl⟩ := List.mem_map.mp hr
  have hf := h (f k) (List.mem_map.mpr ⟨k, hk, rfl⟩)
  unfold bumpF
  split
  · exact (Qk_add hf seven).mono (by decide)
  · exact hf.mono (by decide)
def wordF (w : List Rat) (a : Int) : Str := if decide (a ∈ [(0 : Int), (w.length : Int) + 1]) = true then Str.ofString "end" else Str.ofString "place"
theorem top_word {w : List Rat} (h : WkOk w) {a : Int} (ha : 0 ≤ a ∧ a < (w.length : Int) + 2) : (topW w (bumpL (topsF w) a)).getD "" = wordF w a := by
  rw [tops_row, bump_row w _ ha]
  unfold topW wordF
  rw [row_0, row_last]
  by_cases h0 : a = 0
  · subst h0
    have e : bumpF (topT w) (Int.toNat 0) 0 = 0 + 1 / 7 := by
      unfold bumpF
      rw [if_pos (show 0 = Int.toNat 0 from rfl), top_0]
    rw [e, if_pos (by simp; left; decide +kernel), if_pos (by simp)]
    rfl
  · by_cases h1 : a = (w.length : Int) + 1
    · have e : bumpF (topT w) a.toNat (w.length + 1) = 1 + 1 / 7 := by
        unfold bumpF
        rw [if_pos (by omega), top_n h]
      rw [e, if_pos (by simp; right; decide +kernel), if_pos (by simp [h1])]
      rfl
    · have e0 : bumpF (topT w) a.toNat 0 = 0 := by
        unfold bumpF
        rw [if_neg (by omega), top_0]
      have e1 : bumpF (topT w) a.toNat (w.length + 1) = 1 := by
        unfold bumpF
        rw [if_neg (by omega), top_n h]
      rw [e0, e1, if_neg (by simp), if_neg (all_not (i := a.toNat - 1) (by omega) ?_), if_neg (by simp [h0, h1])]
      · rfl
      · rw [topAt_row _ _ (by omega)]
        unfold bumpF
        rw [if_neg (show ¬ a.toNat - 1 = a.toNat by omega), if_neg (show ¬ a.toNat - 1 + 2 = a.toNat by omega), if_pos (show a.toNat - 1 + 1 = a.toNat by omega), top_mix h]
        apply decide_eq_false
        intro z
        generalize topT w (a.toNat - 1 + 1) = x at z
        grind
theorem step_word {w : List Rat} (h : WkOk w) {a : Int} (ha : 0 ≤ a ∧ a < (w.length : Int) + 2) : (stepW w (bumpL (stepsF w) a)).getD "" = wordF w a := by
  rw [steps_row, bump_row w _ ha]
  unfold stepW wordF
  rw [row_0, row_last]
  by_cases h0 : a = 0
  · subst h0
    have e : bumpF (stpT w) (Int.toNat 0) 0 = 0 + 1 / 7 := by
      unfold bumpF
      rw [if_pos (show 0 = Int.toNat 0 from rfl), stp_0]
    rw [e, if_pos (by simp; left; decide +kernel), if_pos (by simp)]
    rfl
  · by_cases h1 : a = (w.length : Int) + 1
    · have e : bumpF (stpT w) a.toNat (w.length + 1) = 0 + 1 / 7 := by
        unfold bumpF
        rw [if_pos (by omega), stp_n h]
      rw [e, if_pos (by simp; right; decide +kernel), if_pos (by simp [h1])]
      rfl
    · have e0 : bumpF (stpT w) a.toNat 0 = 0 := by
        unfold bumpF
        rw [if_neg (by omega), stp_0]
      have e1 : bumpF (stpT w) a.toNat (w.length + 1) = 0 := by
        unfold bumpF
        rw [if_neg (by omega), stp_n h]
      rw [e0, e1, if_neg (by simp), if_neg (all_not (i := a.toNat - 1) (by omega) ?_), if_neg (by simp [h0, h1])]
      · rfl
      · rw [stepAt_row _ _ (by omega)]
        unfold bumpF
        rw [if_neg (show ¬ a.toNat - 1 = a.toNat by omega), if_neg (show ¬ a.toNat - 1 + 2 = a.toNat by omega), if_pos (show a.toNat - 1 + 1 = a.toNat by omega), stp_mix h]
        apply decide_eq_false
        intro z
        generalize stpT w (a.toNat - 1 + 1) = x at z
        grind
end Nz

set_option exponentiation.threshold 10000
/-! walks: there is just one such row; the other way round; cut -/
namespace Nz
open PySem PySem.Spec PyProof.Rows L2 RZ
/-- with 0 at both ends, a mean of its neighbours everywhere: 0 -/
theorem harm_lin {w : List Rat} (h : WkOk w) {g : Nat → Rat} (h0 : g 0 = 0) (hm : ∀ a, a < w.length → mixF (cw w a) (g a) (g (a + 2)) = g (a + 1)) : ∀ k, k ≤ w.length → g k = g 1 * hgtF w k ∧ g (k + 1) = g 1 * hgtF w (k + 1)
  | 0, _ => by
    refine ⟨by rw [h0]; show _ = g 1 * 0; rw [Rat.mul_zero], ?_⟩
    show g 1 = g 1 * (0 + 1)
    rw [Rat.zero_add, Rat.mul_one]
  | k + 1, hk => by
    obtain ⟨e1, e2⟩ := harm_lin h h0 hm k (by omega)
    refine ⟨e2, ?_⟩
    have m1 := hm k (by omega)
    have m2 := hgt_mix h k
    have hc := sp_ne (cw_ok h k)
    show g (k + 2) = g 1 * hgtF w (k + 2)
    rw [e1, e2] at m1
    unfold mixF at m1 m2
    generalize hgtF w (k + 2) = z at *
    generalize g (k + 2) = y at *
    rw [← m2] at m1
    generalize hgtF w k = u at *
    generalize g 1 = v at *
    generalize cw w k = c at *
    have : c * (y - v * z) = 0 := by grind
    rcases Rat.mul_eq_zero.mp this with q | q
    · exact absurd q hc
    · grind
theorem harm_zero {w : List Rat} (h : WkOk w) {g : Nat → Rat} (h0 : g 0 = 0) (hn : g (w.length + 1) = 0) (hm : ∀ a, a < w.length → mixF (cw w a) (g a) (g (a + 2)) = g (a + 1)) {k : Nat} (hk : k ≤ w.length + 1) : g k = 0 := by
  have e := (harm_lin h h0 hm w.length (Nat.le_refl _)).2
  rw [hn] at e
  have h1 : g 1 = 0 := by
    rcases Rat.mul_eq_zero.mp e.symm with q | q
    · exact q
    · exact absurd q (hgt_ne h _)
  by_cases e0 : k ≤ w.length
  · rw [(harm_lin h h0 hm k e0).1, h1, Rat.zero_mul]
  · rw [show k = w.length + 1 by omega, hn]
theorem tops_one {w : List Rat} (h : WkOk w) {g : Nat → Rat} (h0 : g 0 = 0) (hn : g (w.length + 1) = 1) (hm : ∀ a, a < w.length → mixF (cw w a) (g a) (g (a + 2)) = g (a + 1)) {k : Nat} (hk : k ≤ w.length + 1) : g k = topT w k := by
  have := harm_zero h (g := fun k => g k - topT w k) (by show g 0 - topT w 0 = 0; rw [h0, top_0]; decide +kernel) (by show g _ - topT w _ = 0; rw [hn, top_n h]; decide +kernel) (fun a ha => by
    have e1 := hm a ha
    have e2 := top_mix h a
    unfold mixF at *
    grind) hk
  grind
theorem steps_one {w : List Rat} (h : WkOk w) {g : Nat → Rat} (h0 : g 0 = 0) (hn : g (w.length + 1) = 0) (hm : ∀ a, a < w.length → 1 + mixF (cw w a) (g a) (g (a + 2)) = g (a + 1)) {k : Nat} (hk : k ≤ w.length + 1) : g k = stpT w k := by
  have := harm_zero h (g := fun k => g k - stpT w k) (by show g 0 - stpT w 0 = 0; rw [h0, stp_0]; decide +kernel) (by show g _ - stpT w _ = 0; rw [hn, stp_n h]; decide +kernel) (fun a ha => by
    have e1 := hm a ha
    have e2 := stp_mix h a
    unfold mixF at *
    grind) hk
  grind
/-! ### the other way round -/
def backF (w : List Rat) : List Rat := w.reverse.map fun c => 1 - c
theorem back_len (w : List Rat) : (backF w).length = w.length := by simp [backF]
theorem co_ok {c : Rat} (h : SpOk c) : SpOk (1 - c) := by
  have e : (1 - c).den = c.den := by rw [← co_rat c]
  obtain ⟨⟨h1, h2⟩, h3⟩ := h
  exact ⟨⟨by grind, by grind⟩, by rw [e]; exact h3⟩
theorem back_ok {w : List Rat} (h : WkOk w) : WkOk (backF w) := by
  refine ⟨by rw [back_len]; exact h.1, fun c hc => ?_⟩
  obtain ⟨d, hd, rfl⟩ := List.mem_map.mp hc
  exact co_ok (h.2 d (List.mem_reverse.mp hd))
theorem back_cw {w : List Rat} {k : Nat} (hk : k < w.length) : cw (backF w) k = 1 - cw w (w.length - 1 - k) := by
  have e1 : w[w.length - 1 - k]? = some (w[w.length - 1 - k]'(by omega)) := List.getElem?_eq_getElem _
  rw [cw_get e1]
  refine cw_get ?_
  unfold backF
  rw [List.getElem?_map, List.getElem?_reverse hk, e1]
  rfl
theorem back_top {w : List Rat} (h : WkOk w) {k : Nat} (hk : k ≤ w.length + 1) : topT (backF w) k = 1 - topT w (w.length + 1 - k) := by
  refine (tops_one (back_ok h) (g := fun k => 1 - topT w (w.length + 1 - k)) ?_ ?_ (fun a ha => ?_) (by rw [back_len]; exact hk)).symm
  · show 1 - topT w (w.length + 1) = 0
    rw [top_n h]; decide +kernel
  · show 1 - topT w (w.length + 1 - ((backF w).length + 1)) = 1
    rw [back_len, show w.length + 1 - (w.length + 1) = 0 by omega, top_0]; decide +kernel
  · rw [back_len] at ha
    have m := top_mix h (w.length - 1 - a)
    rw [back_cw ha]
    show mixF _ (1 - topT w (w.length + 1 - a)) (1 - topT w (w.length + 1 - (a + 2))) = 1 - topT w (w.length + 1 - (a + 1))
    rw [show w.length - 1 - a + 2 = w.length + 1 - a by omega, show w.length - 1 - a + 1 = w.length + 1 - (a + 1) by omega] at m
    rw [show w.length + 1 - (a + 2) = w.length - 1 - a by omega, ← m]
    unfold mixF
    generalize cw w (w.length - 1 - a) = c
    grind
theorem back_stp {w : List Rat} (h : WkOk w) {k : Nat} (hk : k ≤ w.length + 1) : stpT (backF w) k = stpT w (w.length + 1 - k) := by
  refine (steps_one (back_ok h) (g := fun k => stpT w (w.length + 1 - k)) ?_ ?_ (fun a ha => ?_) (by rw [back_len]; exact hk)).symm
  · exact stp_n h
  · show stpT w (w.length + 1 - ((backF w).length + 1)) = 0
    rw [back_len, show w.length + 1 - (w.length + 1) = 0 by omega, stp_0]
  · rw [back_len] at ha
    have m := stp_mix h (w.length - 1 - a)
    rw [back_cw ha]
    show 1 + mixF _ (stpT w (w.length + 1 - a)) (stpT w (w.length + 1 - (a + 2))) = stpT w (w.length + 1 - (a + 1))
    rw [show w.length - 1 - a + 2 = w.length + 1 - a by omega, show w.length - 1 - a + 1 = w.length + 1 - (a + 1) by omega] at m
    rw [show w.length + 1 - (a + 2) = w.length - 1 - a by omega, ← m]
    unfold mixF
    generalize cw w (w.length - 1 - a) = c
    grind
theorem row_rev (w : List Rat) (f : Nat → Rat) : (rowL w f).reverse = rowL w fun k => f (w.length + 1 - k) := by
  unfold rowL
  rw [rev_rng]
  rfl
theorem row_map (w : List Rat) (f : Nat → Rat) (g : Rat → Rat) : (rowL w f).map g = rowL w fun k => g (f k) := by
  unfold rowL
  rw [List.map_map]
  rfl
theorem row_ext {w v : List Rat} (hl : v.length = w.length) {f g : Nat → Rat} (h : ∀ k, k ≤ w.length + 1 → f k = g k) : rowL v f = rowL w g := by
  unfold rowL
  rw [hl]
  exact List.map_congr_left fun k hk => h k (by have := List.mem_range.mp hk; omega)
theorem back_tops {w : List Rat} (h : WkOk w) : topsF (backF w) = (topsF w).reverse.map fun c => 1 - c := by
  rw [tops_row, tops_row, row_rev, row_map]
  exact row_ext (back_len w) fun k hk => back_top h hk
theorem back_steps {w : List Rat} (h : WkOk w) : stepsF (backF w) = (stepsF w).reverse := by
  rw [steps_row, steps_row, row_rev]
  exact row_ext (back_len w) fun k hk => back_stp h hk
/-! ### cut -/
theorem take_cw {w : List Rat} {m k : Nat} (h : k < m) : cw (w.take m) k = cw w k := by
  unfold cw
  rw [List.getElem?_take_of_lt h]
theorem take_gap (w : List Rat) (m : Nat) : ∀ k, k ≤ m → gapF (w.take m) k = gapF w k
  | 0, _ => rfl
  | k + 1, h => by
    show gapF (w.take m) k * ((1 - cw (w.take m) k) / cw (w.take m) k) = gapF w k * ((1 - cw w k) / cw w k)
    rw [take_gap w m k (by omega), take_cw (by omega)]
theorem take_hgt (w : List Rat) (m : Nat) : ∀ k, k ≤ m + 1 → hgtF (w.take m) k = hgtF w k
  | 0, _ => rfl
  | k + 1, h => by
    show hgtF (w.take m) k + gapF (w.take m) k = hgtF w k + gapF w k
    rw [take_hgt w m k (by omega), take_gap w m k (by omega)]
theorem take_ok {w : List Rat} (h : WkOk w) {m : Nat} (h1 : 1 ≤ m) (h2 : m ≤ w.length) : WkOk (w.take m) := by
  have := h.1
  refine ⟨by rw [List.length_take]; omega, fun c hc => h.2 c (List.mem_of_mem_take hc)⟩
def firstF (w : List Rat) (cut : Int) : List Rat := if decide (1 < cut) = true then topsF (cutX w none (some (cut - 1))) else [0, 1]
theorem first_take {w : List Rat} {cut : Int} (h : 1 < cut ∧ cut ≤ (w.length : Int)) : firstF w cut = topsF (w.take (cut - 1).toNat) := by
  unfold firstF
  rw [if_pos (decide_eq_true h.1), (cut_back w (cut - 1) (by omega)).2]
theorem first_at {w : List Rat} (h : WkOk w) {cut : Int} (hc : 1 ≤ cut ∧ cut ≤ (w.length : Int)) {k : Nat} (hk : (k : Int) ≤ cut) : ixG (firstF w cut) (k : Int) * topT w cut.toNat = topT w k := by
  by_cases h1 : 1 < cut
  · rw [first_take ⟨h1, hc.2⟩, tops_row]
    have hl : (w.take (cut - 1).toNat).length = (cut - 1).toNat := by rw [List.length_take]; omega
    rw [row_at (by rw [hl]; omega)]
    unfold topT
    rw [hl, show ((k : Int)).toNat = k by omega, take_hgt _ _ _ (by omega), take_hgt _ _ _ (by omega), show (cut - 1).toNat + 1 = cut.toNat by omega]
    have n1 := hgt_ne h (cut.toNat - 1)
    rw [show cut.toNat - 1 + 1 = cut.toNat by omega] at n1
    generalize hgtF w cut.toNat = a at *
    generalize hgtF w (w.length + 1) = b
    rw [Rat.div_def, Rat.div_def, Rat.div_def]
    generalize b⁻¹ = z
    grind
  · have e : cut = 1 := by omega
    subst e
    have e2 : firstF w 1 = [0, 1] := by
      unfold firstF
      rw [if_neg (by decide)]
    rw [e2]
    match k, hk with
    | 0, _ =>
      show (0 : Rat) * topT w 1 = topT w 0
      rw [Rat.zero_mul, top_0]
    | 1, _ =>
      show (1 : Rat) * topT w 1 = topT w 1
      rw [Rat.one_mul]
    | n + 2, hk => omega
end Nz

set_option exponentiation.threshold 10000
/-! walks: the law -/
namespace Nz
open PySem PySem.Spec PyProof.Rows L2 RZ
theorem words_shaped (w : List Rat) (a : Int) : SeqAt.shaped (eL PyData.str [wordF w a, wordF w a]) = true := by
  unfold wordF
  split <;> decide +kernel
theorem words_eqv (w : List Rat) (a : Int) : PyData.eqv (eL PyData.str [wordF w a, wordF w a]) (eL PyData.str [wordF w a, wordF w a]) = true := by
  unfold wordF
  split <;> decide +kernel
theorem words_sh1 {w : List Rat} (h : WkOk w) {a : Int} (ha : 0 ≤ a ∧ a < (w.length : Int) + 2) :
    SeqAt.shaped (eL PyData.str [(topW w (ixG [bumpL (topsF w) a, bumpL (stepsF w) a] (0 : Int))).getD "", (stepW w (ixG [bumpL (topsF w) a, bumpL (stepsF w) a] (1 : Int))).getD ""]) = true := by
  have e0 : (topW w (ixG [bumpL (topsF w) a, bumpL (stepsF w) a] (0 : Int))).getD "" = wordF w a := top_word h ha
  have e1 : (stepW w (ixG [bumpL (topsF w) a, bumpL (stepsF w) a] (1 : Int))).getD "" = wordF w a := step_word h ha
  rw [e0, e1]
  exact words_shaped w a
theorem words_sh2 (w : List Rat) (a : Int) : SeqAt.shaped (eL PyData.str ((List.replicate ((2 : Int)).toNat [if decide (a ∈ [(0 : Int), (w.length : Int) + 1]) = true then Str.ofString "end" else Str.ofString "place"]).flatten)) = true := words_shaped w a
theorem many_in {x : Int × Unit} (h : (∃ a b : Int, a = 1 ∧ (∃ m, m ∈ [(4 : Int), 12, 30] ∧ 0 ≤ b ∧ b < m) ∧ x.1 = 1 + b) ∧ True) : 1 ≤ x.1 ∧ x.1 ≤ 30 := by
  obtain ⟨⟨a, b, _, ⟨m, hm, hb⟩, hx⟩, _⟩ := h
  simp at hm
  omega
theorem acc_in {w : List Rat} (h : WkOk w) : (∀ r ∈ topsF w, Qk 700 r) ∧ ∀ r ∈ stepsF w, Qk 700 r := ⟨fun r hr => (tops_qk h r hr).mono (by decide), fun r hr => (steps_qk h r hr).mono (by decide)⟩
theorem more_in {w : List Rat} (h : WkOk w) {a : Int} (ha : 0 ≤ a ∧ a < (w.length : Int) + 2) :
    (w.length ≤ 30 ∧ (ixG [bumpL (topsF w) a, bumpL (stepsF w) a] (0 : Int)).length = w.length + 2) ∧ (w.length ≤ 30 ∧ (ixG [bumpL (topsF w) a, bumpL (stepsF w) a] (1 : Int)).length = w.length + 2) ∧
      (∀ r ∈ ixG [bumpL (topsF w) a, bumpL (stepsF w) a] (0 : Int), Qk 700 r) ∧ ∀ r ∈ ixG [bumpL (topsF w) a, bumpL (stepsF w) a] (1 : Int), Qk 700 r := by
  show (_ ∧ (bumpL (topsF w) a).length = _) ∧ (_ ∧ (bumpL (stepsF w) a).length = _) ∧ (∀ r ∈ bumpL (topsF w) a, Qk 700 r) ∧ ∀ r ∈ bumpL (stepsF w) a, Qk 700 r
  have e1 := tops_qk h
  have e2 := steps_qk h
  rw [tops_row] at e1 ⊢
  rw [steps_row] at e2 ⊢
  rw [bump_row w _ ha, bump_row w _ ha]
  exact ⟨⟨h.1.2, rowL_len _ _⟩, ⟨h.1.2, rowL_len _ _⟩, bump_qk e1 _, bump_qk e2 _⟩
theorem more_if {w : List Rat} (h : WkOk w) {a : Int} (ha : 0 ≤ a ∧ a < (w.length : Int) + 2) :
    ¬ (!PyData.eqv (eL PyData.str [(topW w (ixG [bumpL (topsF w) a, bumpL (stepsF w) a] (0 : Int))).getD "", (stepW w (ixG [bumpL (topsF w) a, bumpL (stepsF w) a] (1 : Int))).getD ""]) (eL PyData.str ((List.replicate ((2 : Int)).toNat [if decide (a ∈ [(0 : Int), (w.length : Int) + 1]) = true then Str.ofString "end" else Str.ofString "place"]).flatten))) = true := by
  have e0 : (topW w (ixG [bumpL (topsF w) a, bumpL (stepsF w) a] (0 : Int))).getD "" = wordF w a := top_word h ha
  have e1 : (stepW w (ixG [bumpL (topsF w) a, bumpL (stepsF w) a] (1 : Int))).getD "" = wordF w a := step_word h ha
  rw [e0, e1]
  have e2 : (List.replicate ((2 : Int)).toNat [if decide (a ∈ [(0 : Int), (w.length : Int) + 1]) = true then Str.ofString "end" else Str.ofString "place"]).flatten = [wordF w a, wordF w a] := rfl
  rw [e2, words_eqv]
  decide
theorem cut_if {w : List Rat} (h : WkOk w) {cut : Int} (hc : 1 ≤ cut ∧ cut ≤ (w.length : Int)) :
    ¬ (!(((List.range (cut + 1).toNat).filter fun (x : Nat) => !decide (ixG (firstF w cut) (x : Int) * ixG (topsF w) cut = ixG (topsF w) (x : Int))).map fun (x : Nat) => (x : Int)).isEmpty) = true := by
  have e : ((List.range (cut + 1).toNat).filter fun (x : Nat) => !decide (ixG (firstF w cut) (x : Int) * ixG (topsF w) cut = ixG (topsF w) (x : Int))) = [] := by
    rw [List.filter_eq_nil_iff]
    intro x hx
    have := List.mem_range.mp hx
    rw [tops_row, row_at (by omega), row_at (by omega), first_at h hc (by omega)]
    simp
  rw [e]
  simp
theorem turn_if {w : List Rat} (h : WkOk w) {p : Int} (hp : 0 ≤ p ∧ p ≤ (w.length : Int) + 1) (t : Nat) :
    ¬ ((!decide ((behF w p.toNat t).sum = (1 : Rat))) || (!decide (meanF (behF w p.toNat t) (topsF w) = ixG (topsF w) p))) = true := by
  have e1 : (behF w p.toNat t).sum = 1 := by
    unfold behF
    rw [sum_row, it_harm (fun a _ => by unfold mixF; grind), ip_dl _ (by omega)]
  have e2 : meanF (behF w p.toNat t) (topsF w) = ixG (topsF w) p := by
    rw [tops_row, row_at (by omega)]
    unfold behF
    rw [mean_row, it_harm (fun a _ => top_mix h a), ip_dl _ (by omega)]
  rw [e1, e2]
  simp
theorem bump_pb {w x t s : List Rat} {a : Int} (h : WkOk w) (hx : x ∈ [t, s]) (ht : t = topsF w) (hs : s = stepsF w) (ha : 0 ≤ a ∧ a < (w.length : Int) + 2) : Pb (qp (ixG x a)) := by
  rcases mem2 hx with e | e
  · rw [e, ht]; exact ((tops_qk h _ (ixG_mem (by rw [tops_len]; omega))).qb (by decide)).pb
  · rw [e, hs]; exact ((steps_qk h _ (ixG_mem (by rw [steps_len]; omega))).qb (by decide)).pb
theorem cut_ok {w : List Rat} (h : WkOk w) {cut : Int} (hc : 1 ≤ cut ∧ cut ≤ (w.length : Int)) (h1 : decide (1 < cut) = true) : WkOk (cutX w none (some (cut - 1))) := by
  have := of_decide_eq_true h1
  rw [(cut_back w (cut - 1) (by omega)).2]
  exact take_ok h (by omega) (by omega)
theorem first_len {w : List Rat} {cut : Int} (hc : 1 ≤ cut ∧ cut ≤ (w.length : Int)) : ((firstF w cut).length : Int) = cut + 1 := by
  by_cases h1 : 1 < cut
  · rw [first_take ⟨h1, hc.2⟩, tops_len, List.length_take]; omega
  · unfold firstF
    rw [if_neg (by simpa using h1)]
    show ((2 : Nat) : Int) = cut + 1
    omega
theorem first_qk {w : List Rat} (h : WkOk w) {cut : Int} (hc : 1 ≤ cut ∧ cut ≤ (w.length : Int)) : ∀ r ∈ firstF w cut, Qk 660 r := by
  by_cases h1 : 1 < cut
  · rw [first_take ⟨h1, hc.2⟩]
    exact tops_qk (take_ok h (by omega) (by omega))
  · unfold firstF
    rw [if_neg (by simpa using h1)]
    intro r hr
    rcases mem2 hr with e | e
    · rw [e]; exact Qk_zero _
    · rw [e]; exact Qk_one _
theorem first_pb {w : List Rat} (h : WkOk w) {cut : Int} (hc : 1 ≤ cut ∧ cut ≤ (w.length : Int)) {x : Nat} (hx : x ∈ List.range (cut + 1).toNat) : Pb (qp (ixG (firstF w cut) (x : Int))) := by
  have := List.mem_range.mp hx
  have hl := first_len hc
  exact ((first_qk h hc _ (ixG_mem (by omega))).qb (by decide)).pb
theorem first_ix {w f : List Rat} (h : WkOk w) {cut : Int} (hc : 1 ≤ cut ∧ cut ≤ (w.length : Int)) (hf : f = firstF w cut) {x : Nat} (hx : x ∈ List.range (cut + 1).toNat) : InB f.length (x : Int) := by
  have := List.mem_range.mp hx
  have hl := first_len hc
  rw [hf]
  exact inb (by omega)
theorem bsz {x t s : List Rat} {n : Nat} (hx : x ∈ [t, s]) (ht : t.length = n + 2) (hs : s.length = n + 2) (hn : n ≤ 30) (a : Int) : (cutX x none (some a)).length ≤ 32 ∧ (cutX x (some (a + 1)) none).length ≤ 32 := by
  have h : x.length ≤ 32 := by rcases mem2 hx with e | e <;> rw [e] <;> omega
  exact ⟨Nat.le_trans (cut_sz _ _ _) h, Nat.le_trans (cut_sz _ _ _) h⟩
theorem tops_pb {w : List Rat} (h : WkOk w) {k : Int} (hk : 0 ≤ k ∧ k < (w.length : Int) + 2) : Pb (qp (ixG (topsF w) k)) := ((tops_qk h _ (ixG_mem (by rw [tops_len]; omega))).qb (by decide)).pb
end Nz

/-! the law's own head, for promises that hold where no repr is on the way -/
namespace Nz
open PySem PySem.Spec PyProof.Rows L2 RZ
/-- what a law's def promises -/
def R_top : List PyData → PyData → Prop := fun ds d => ∃ script : List Int, ds = [eL PyData.int script] ∧ script.length ≤ 100000 ∧ d = PyData.bool true
theorem hide_nil (H : Hp) : hide [] H = H := by
  funext b
  unfold hide
  rw [if_neg (fun m => nomatch m)]
theorem top_sp {K : PySem.W.Frag} {H : Hp} {a : Addr} {ns : List Int} (hl : ns.length ≤ 100000) (hq : SqL K H a (ns.map V.int)) : SpP K R_top [.ref a] H (fun v _ => v = .bl true) E0 :=
  ⟨[], [eL PyData.int ns], .bool true, fun _ m => (nomatch m), by rw [hide_nil]; exact .cons (.lst hq (dpa_ints ns)) .nil, ⟨ns, rfl, hl, rfl⟩, fun v H' _ dz => dp_bl dz⟩
section
variable {P : Program} {w : World} {K : PySem.W.Frag} {mg mb : Str → Option Value} {k : Nat} {g a : Addr} {fd : FuncData} {x : Str} {s : Shared} {us : List Value} {ns : List Int}
/-- the heap that is tracked: the script alone, if it is no part of the module -/
def soleH (K : PySem.W.Frag) (a : Addr) (ob : Obj) (ns : List Int) : Hp := fun b => if b = a then (if (K.lookup a).isSome = true then none else some (.frz ob (.lst (ns.map V.int)))) else none
theorem law_callG (inK : K.In s.heap) (nsG : s.heap.Ns mainGlobals mg) (nsB : s.heap.Ns builtinsNs mb) (bb : ∀ y : Str, y ≠ "__name__" → mb y = bootBuiltins y) (lim : s.heap.NoLimit) (gn : s.gens = #[])
    (at_a : s.heap.get? a = some { cls := .type "list", data := .seq us.toArray }) (allI : IntsAre us ns) (short : ns.length ≤ 100000) (room : Room k callerA)
    (F : ∀ base : Heap, K.In base → base.Ns mainGlobals mg → FnG P w K mg base k g fd [x] (SpP K R_top)) (bnd : ∀ (s : Shared) (u : Value), BindsTo s fd ⟨[u], []⟩ [(x, u)]) :
    codeAny (model P w) callerA (.call (.ref g) ⟨[.ref a], []⟩) (fun r t => r = .ok (.ret (.bool true)) ∧ OldK s.heap t.heap ∧ t.os = s.os ∧ AllBare t.gens) s := by
  have vals := vals_ints allI
  have cnt := allI.length
  have size : ns.length ≤ sizeLine := Nat.le_trans short (by decide)
  let ob : Obj := { cls := .type "list", data := .seq us.toArray }
  let H := soleH K a ob ns
  have off : ∀ {b : Addr}, b ≠ a → H b = none := fun {b} ne => if_neg ne
  have isA : ∀ {b : Addr} {u : HO}, H b = some u → b = a ∧ u = .frz ob (.lst (ns.map V.int)) ∧ K.lookup a = none := fun {b u} e => by
    by_cases q : b = a
    · subst q
      have e : (if True then (if (K.lookup b).isSome = true then none else some (HO.frz ob (.lst (ns.map V.int)))) else none) = some u := by
        have e' := e
        show (if True then _ else _) = _
        rw [if_pos trivial]
        have : H b = (if (K.lookup b).isSome = true then none else some (HO.frz ob (.lst (ns.map V.int)))) := if_pos rfl
        rw [this] at e'; exact e'
      rw [if_pos trivial] at e
      cases z : K.lookup b with
      | some o => rw [z] at e; cases e
      | none => rw [z] at e; cases e; exact ⟨rfl, rfl, rfl⟩
    · rw [off q] at e; cases e
  have seq : SqL K H a (ns.map V.int) := by
    cases z : K.lookup a with
    | some o =>
      have e := inK a o z
      rw [at_a] at e
      cases e
      exact .inr ⟨_, us.toArray, _, z, rfl, rfl, rfl, by rw [List.size_toArray, cnt]; exact size, by simpa using vals⟩
    | none =>
      refine .inl (.inr ⟨ob, ?_⟩)
      show H a = _
      have : H a = (if (K.lookup a).isSome = true then none else some (HO.frz ob (.lst (ns.map V.int)))) := if_pos rfl
      rw [this, z]; rfl
  have hok : HOk P w H s.heap := fun b u e => by
    obtain ⟨rfl, rfl, _⟩ := isA e
    exact ⟨at_a, by rw [List.length_map]; exact size, us, _, vals, at_a⟩
  have back : ∀ {b : Addr} {o : Obj}, s.heap.get? b = some o → H b = none → (hidT s.heap H).get? b = some o := fun e n => hidT_get e n
  have dict : ∀ {b : Addr} {o : Obj} {es : Array DictEntry} {m : Nat}, s.heap.get? b = some o → o.data = .dict es m → H b = none := fun {b o es m} e d => by
    cases q : H b with
    | none => rfl
    | some u =>
      obtain ⟨rfl, _, _⟩ := isA q
      rw [at_a] at e
      cases e
      have d : Data.seq us.toArray _ = Data.dict es m := d
      cases d
  have nsOf : ∀ {b : Addr} {m : Str → Option Value}, s.heap.Ns b m → (hidT s.heap H).Ns b m := fun ⟨o, es, j, e, d, r⟩ => ⟨o, es, j, back e (dict e d), d, r⟩
  have inB : K.In (hidT s.heap H) := fun b o e => back (inK b o e) (by
    cases q : H b with
    | none => rfl
    | some u =>
      obtain ⟨rfl, _, z⟩ := isA q
      rw [z] at e; cases e)
  obtain ⟨mc, lim1, lim2⟩ := lim
  have env : Env0 P w K mg (hidT s.heap H) callerA [] s H := ⟨rfl, ⟨inB, nsOf nsG, ⟨mb, nsOf nsB, bb⟩, ⟨mc, nsOf lim1, lim2⟩⟩, fun _ _ e => of_hidT e, Nat.le_of_eq (hidT_size _ _), trivial, fun b m => absurd (show b ∈ ([] : List Addr) from m) (by simp), hok, .of_eq gn⟩
  have ran := (F _ inB (nsOf nsG)).run callerA [] s H ⟨[.ref a], []⟩ [.ref a] [.ref a] (fun v _ => v = .bl true) room rfl env (bnd s (.ref a)) (.cons rfl .nil) (top_sp short seq)
  refine codeAny_mono ran fun r t h => ?_
  match r, h with
  | .error _, h => exact h.elim
  | .ok .next, h => exact h.elim
  | .ok .brk, h => exact h.elim
  | .ok .cont, h => exact h.elim
  | .ok (.ret u), h =>
    obtain ⟨v, H', os, bare, un, hok', rv, q⟩ := h
    have q : v = .bl true := q
    subst q
    have rv : u = Value.bool true := rv
    subst rv
    refine ⟨rfl, OldK.of_keep fun b o e => ?_, os, bare⟩
    cases q : H b with
    | none => exact un.keep b o e q (fun z => absurd (show b ∈ ([] : List Addr) from z) (by simp)) (by simp)
    | some u =>
      obtain ⟨rfl, rfl, _⟩ := isA q
      have e1 := (hok b _ q).1
      have e2 := (hok' b _ (un.frzs b ob _ q)).1
      rw [e] at e1
      cases e1
      exact e2
end
/-- the goal that k_head leaves -/
theorem walk_ofG {l : PySem.W.OpenLaw} {n k : Nat} {q : Program} {loose : List Str} {XP : (Str → Option Value) → Heap → Prop} {YP : World → Heap → Prop} {d : DefRec} {K : Params → PySem.W.Frag} {x : Str}
    (most : l.most = some n) (small : n ≤ 100000) (none_ : d.params.defaults = []) (room : Room k callerA) (hY : ∀ (w : World) (h : Heap), YP w h → (K w.params).In h)
    (F : ∀ (w : World) (mg : Str → Option Value) (g : Addr) (h : Heap), (K w.params).In h → h.Ns mainGlobals mg → mg d.name = some (.ref g) →
      ∃ fd : FuncData, (∀ (s : Shared) (u : Value), BindsTo s fd ⟨[u], []⟩ [(x, u)]) ∧ ∀ base : Heap, (K w.params).In base → base.Ns mainGlobals mg → FnG l.prog w (K w.params) mg base k g fd [x] (SpP (K w.params) R_top)) :
    PySem.W.WalkO q loose XP YP l.row.toRowW d [] (fun f vs => PySem.call f vs) :=
  Att.attach_call most none_ fun w s₀ s₁ mg mb g o pm cd doc a vs ns G Y ho hd hcd hmg hobj hints hlen hg =>
    have inK := hY w _ Y
    have ⟨_, bnd, all⟩ := F w mg g _ inK G.T.g hmg
    law_callG inK G.T.g G.T.b G.T.builtins G.T.nolimit hg hobj hints (Nat.le_trans hlen small) room all bnd
end Nz

namespace Nz
open PySem PySem.Spec PyProof.Rows L2 RZ
def topS (i : Nat) : Stmt := PySem.Challenge.pw_nosurewin_k68_walks_cut_and_put_together.main.body.getD i (.Pass ⟨0, 0, 0, 0⟩)
/-- what the top leaves of the names that are no defs -/
structure Gb (K : PySem.W.Frag) (mg : Str → Option Value) : Prop where
  abs_ : mg "abs" = none
  all_ : mg "all" = none
  bool_ : mg "bool" = none
  enumerate_ : mg "enumerate" = none
  int_ : mg "int" = none
  isinstance_ : mg "isinstance" = none
  len_ : mg "len" = none
  list_ : mg "list" = none
  range_ : mg "range" = none
  repr_ : mg "repr" = none
  tuple_ : mg "tuple" = none
  zip_ : mg "zip" = none
  c_MAX_PART : ∃ t, mg "MAX_PART" = some (.int 1000 t)
  c_MAX_TIMES : ∃ t, mg "MAX_TIMES" = some (.int 40 t)
  c_MAX_WAY : ∃ t, mg "MAX_WAY" = some (.int 30 t)
abbrev s_PaperInit : Stmt := firstDef (topS 3)
theorem paper_scope : InitScope (defScope s_PaperInit) := initScope_of rfl rfl rfl (by decide +kernel) rfl rfl rfl rfl
theorem paper_par : ∃ ar : Arg, ((defArgs s_PaperInit).posonlyargs ++ (defArgs s_PaperInit).args).head? = some ar ∧ ar.arg = ("self" : Str) := ⟨_, rfl, rfl⟩
theorem paper_binds {kV doc pm ct : Value} {an : Option Addr} {cda cc : Addr} {qual : Str} (us : List Value) (hl : us.length = 2) : bindArgs (PySem.W.ksFn "__init__" qual (defArgs s_PaperInit) (defBody s_PaperInit) (defScope s_PaperInit) .none kV doc pm an (.ref cda) ct cc) ⟨us, []⟩ = pure ((["self", "reason"] : List Str).zip us) :=
  match us, hl with | [_, _], _ => rfl
theorem paper_init {P : Program} {w : World} {K : PySem.W.Frag} {mg : Str → Option Value} {base : Heap} {C f cda cc : Addr} {fd : FuncData} (IF : InitFacts P K mg C f cda cc "__init__" "PaperError.__init__" (defArgs s_PaperInit) (defBody s_PaperInit) (defScope s_PaperInit) fd) : FnOk P w K mg base CX0 1 f fd ["self", "reason"] (spInit C) :=
  fn_exc_init (k := 0) IF (by decide) (fun _ => rfl) (fun _ => ⟨_, rfl⟩)



/-! ### the law's own defs that touch the state -/
abbrev s_law_start : Stmt := topS 30
abbrev N_law_start : List Str := ["script", "seed", "cell"]
theorem sc_law_start : FnScope N_law_start ["script"] (defScope s_law_start) := ⟨rfl, rfl, rfl, by decide +kernel, rfl, by decide +kernel, by decide +kernel⟩
def R_law_start : List PyData → List PyData → Prop := fun ds es => ∃ script : List Int, ds = [eL .int script] ∧ script.length ≤ 100000 ∧ es = [.list (script.map .int), .int 0, .int 0, .int (seedOf script : Nat)]
theorem ok_law_start {P : Program} {w : World} {K : PySem.W.Frag} {mg : Str → Option Value} {base : Heap} (B : Gb K mg) (F : Fd K mg "_law_start" s_law_start) : Cl P w K mg base 1 "_law_start" ["script"] (SpL K R_law_start) := by
  obtain ⟨f, fd, F, hm⟩ := F.ex
  refine ⟨f, fd, fnG_of (k := 0) F sc_law_start (spL_len fun ds d h => ?_) (fun cdv A outer s H hr hgd => ⟨_, (pss_cons (ps_set (i := 1) sc_law_start.nd rfl (Or.inl rfl) pe_int)
    (pss_cons (ps_for PassesOwn.never rfl (pi_list (pv 0)) (pg_name (i := 2) sc_law_start.nd rfl (Or.inl rfl)) (pss_one (ps_set (i := 1) sc_law_start.nd rfl (Or.inl rfl) (pe_op op_add (pe_op op_mod (pe_callTy call_int1 (by rfl) B.int_ PyProof.Rows.boot_int (pa_cons (pe_op op_add (pe_op op_mulG (pv 1) pe_int) (pv 2)) pa_nil)) pe_int) pe_int))))
    (pss_one (ps_ret (pe_lst (pa_cons (pe_callTy call_list_of (by rfl) B.list_ PyProof.Rows.boot_list (pa_cons (pv 0) pa_nil)) (pa_cons pe_int (pa_cons pe_int (pa_cons (pv 1) pa_nil))))))))), fun vs Q => fn_new (N := N_law_start) (fun ds d h => ?_) (fun B S ds d h D hR => ?_) vs H Q E0⟩), hm, F.kp, F.binds fun _ _ _ _ _ _ us hl => match us, hl with | [_], _ => rfl⟩
  · obtain ⟨script, rfl, h0, h1⟩ := h; rfl
  · obtain ⟨script, rfl, h0, h1⟩ := h; simp
  · obtain ⟨script, rfl, h0, h1⟩ := h
    subst h1
    show Ss _ _ [.da (eL .int script), .no, .no] _ _
    refine s_seq (s_asg ed_int (s_le (ρ1 := [.da (eL .int script), .da (.int ((seedOf [] : Nat) : Int)), .no]) (le_rfl rfl) ?_))
    refine s_seq (s_forX script (fun x => Itm.hard (PyData.int x)) (ei_listX (ed_var rfl)) (fun i => [.da (eL .int script), .da (.int ((seedOf (script.take i) : Nat) : Int)), .no]) (le_same (le_same (le_no le_nil))) (fun T' hT i x hx => ⟨_, [2], eg_name (by decide), ?_⟩) ?_)
    · show Ss _ _ [.da (eL .int script), .da (.int ((seedOf (script.take i) : Nat) : Int)), .da (.int x)] _ _
      refine s_asg (ed_I0 (ed_I (ed_intI (ed_I0 (ed_I (ed_var rfl) ed_int (mul_r (by omega) (by omega))) (ed_var rfl))) ed_int (by omega)) ed_int) (s_end (ρ1 := [.da (eL .int script), .da (.int ((seedOf (script.take (i + 1)) : Nat) : Int)), .no]) (le_same (le_da (congrArg PyData.int (seedOf_step hx).2) (le_no le_nil))))
    · refine s_retL (el_is (el_lst (ds := [eL .int script, .int 0, .int 0, .int ((seedOf (script.take script.length) : Nat) : Int)]) (ea_cons (ed_L (el_listOf (.inl (ed_var rfl)))) (ea_cons ed_int (ea_cons ed_int (ea_cons (ed_var rfl) ea_nil))))) (by rw [List.take_length])) hR
abbrev s_law_draw : Stmt := topS 31
abbrev N_law_draw : List Str := ["state", "many", "value"]
theorem sc_law_draw : FnScope N_law_draw ["state", "many"] (defScope s_law_draw) := ⟨rfl, rfl, rfl, by decide +kernel, rfl, by decide +kernel, by decide +kernel⟩
theorem ok_law_draw {P : Program} {w : World} {K : PySem.W.Frag} {mg : Str → Option Value} {base : Heap} (B : Gb K mg) (F : Fd K mg "_law_draw" s_law_draw) : Cl P w K mg base 1 "_law_draw" ["state", "many"] (SpW K R_draw) := by
  obtain ⟨f, fd, F, hm⟩ := F.ex
  refine ⟨f, fd, fnG_of (k := 0) F sc_law_draw (spW_len fun ds d h => ?_) (fun cdv A outer s H hr hgd => ⟨_, (pss_cons (ps_if (PW.pt (pw_and (pt_cmpR (op_eqD hr.units) (pe_ix ix_list (pv 0) pe_int (fun _ _ => rfl)) pe_int (nomark _)) (pw_and1 (pt_cmpR op_ge (pe_ix ix_list (pv 0) pe_int (fun _ _ => rfl)) (pe_callB call_len_seq (by rfl) B.len_ PySem.boot_len (pa_cons (pe_ix ix_list (pv 0) pe_int (fun _ _ => rfl)) pa_nil)) (nomark _)))))
      (pss_cons (ps_asg (pe_op op_mod (pe_callTy call_int1 (by rfl) B.int_ PyProof.Rows.boot_int (pa_cons (pe_op op_add (pe_op op_mulG (pe_ix ix_list (pv 0) pe_int (fun _ _ => rfl)) pe_int) pe_int) pa_nil)) pe_int) (pg_sub (pv 0) pe_int set_list (fun _ => rfl)) rfl)
        (pss_one (ps_ret (pe_op op_mod (pe_callTy call_int1 (by rfl) B.int_ PyProof.Rows.boot_int (pa_cons (pe_op op_fdivG (pe_ix ix_list (pv 0) pe_int (fun _ _ => rfl)) pe_int) pa_nil)) (pv 1))))) pss_nil)
    (pss_cons (ps_if (pt_cmpR (op_eqD hr.units) (pe_ix ix_list (pv 0) pe_int (fun _ _ => rfl)) pe_int (nomark _))
      (pss_cons (ps_asg (pe_callB call_abs (by rfl) B.abs_ PyProof.Rows.boot_abs (pa_cons (pe_ix ix_list (pe_ix ix_list (pv 0) pe_int (fun _ _ => rfl)) (pe_ix ix_list (pv 0) pe_int (fun _ _ => rfl)) (fun _ _ => rfl)) pa_nil)) (pg_sub (pv 0) pe_int set_list (fun _ => rfl)) rfl)
        (pss_one (ps_asg (pe_op op_add (pe_ix ix_list (pv 0) pe_int (fun _ _ => rfl)) pe_int) (pg_sub (pv 0) pe_int set_list (fun _ => rfl)) rfl))) pss_nil)
    (pss_cons (ps_set (i := 2) sc_law_draw.nd rfl (Or.inl rfl) (pe_op op_mod (pe_callTy call_int1 (by rfl) B.int_ PyProof.Rows.boot_int (pa_cons (pe_ix ix_list (pv 0) pe_int (fun _ _ => rfl)) pa_nil)) (pv 1)))
    (pss_cons (ps_asg (pe_op op_fdivG (pe_ix ix_list (pv 0) pe_int (fun _ _ => rfl)) (pv 1)) (pg_sub (pv 0) pe_int set_list (fun _ => rfl)) rfl)
    (pss_one (ps_ret (pv 2))))))), fun vs Q => fn_draws (N := N_law_draw) (fun ds d h => ?_) (fun B S a ds Φ h D hR => ?_) vs H Q E0⟩), hm, F.kp, F.binds fun _ _ _ _ _ _ us hl => match us, hl with | [_, _], _ => rfl⟩
  · obtain ⟨many, rfl, h0, h1, h2⟩ := h; rfl
  · obtain ⟨many, rfl, h0, h1, h2⟩ := h; simp
  · obtain ⟨many, rfl, h0, h1, hΦ⟩ := h
    show Ss _ _ [.mu false a (.any StOk), .da (.int many), .no] _ _
    refine s_open (i := 0) rfl (fun ds hds => ?_)
    obtain ⟨l, cur, pos, seed, rfl⟩ := hds
    have fin : ∀ (l : List Int) (cur pos seed : Nat) (y : Int) (z : Sl), 0 ≤ y ∧ y < many → ∀ {te : TE} {T : Tm} {ρ : List Sl}, Ed ⟨K, B, [a], S⟩ ρ te (.int y) [.mu false a (.lst [.list (l.map .int), .int (cur : Int), .int (pos : Int), .int (seed : Int)]), .da (.int many), z] → Ss ⟨K, B, [a], S⟩ T ρ (tRet te) D := fun l cur pos seed y z hy te T ρ h σ H W =>
      h T σ H W _ fun v H1 W1 => by
        have W2 := W1.le (le_any (P := StOk) ⟨l, cur, pos, seed, rfl⟩ (le_same (le_same le_nil)))
        exact hR _ (hΦ y hy) v H1 W2.keep (fun p hp => by
          simp only [List.mem_singleton] at hp
          subst hp
          exact (W2.ok 0 _ rfl).2.2.mono hide_S0 rfl) (dpm hide_S0 W2.dp)
    have md : ∀ x : Int, 0 ≤ x % many ∧ x % many < many := fun x => ⟨Int.emod_nonneg _ (by omega), Int.emod_lt_of_pos _ h0⟩
    show Ss _ _ [.mu false a (.lst [.list (l.map .int), .int (cur : Int), .int (pos : Int), .int (seed : Int)]), .da (.int many), .no] _ _
    refine s_seq (s_if (b := decide ((cur : Int) = 0) && decide ((l.length : Int) ≤ (pos : Int))) (et_and (et_test (ed_eqI (ed_ixM ed_int rfl ⟨_, _, rfl⟩ rfl) ed_int)) (fun _ => et_test (ed_B0 (ed_ixM ed_int rfl ⟨_, _, rfl⟩ rfl) (ed_lenLX (ed_ixM ed_int rfl ⟨_, _, rfl⟩ rfl))))) (fun hc => ?_) (fun hc => ?_))
    · refine s_seq (s_setL (i := 0) (n := 3) (ed_I (ed_intI (ed_I0 (ed_I (ed_ixM ed_int rfl ⟨_, _, rfl⟩ rfl) ed_int (mul_r (by omega) (by omega))) ed_int)) ed_int (by omega)) ed_int ⟨_, _, rfl⟩ rfl rfl (s_le (ρ1 := [.mu false a (.lst [.list (l.map .int), .int (cur : Int), .int (pos : Int), .int ((((seed * 48271 + 69621) % 2147483629 : Nat)) : Int)]), .da (.int many), .no]) (le_rfl rfl) ?_))
      exact fin l cur pos ((seed * 48271 + 69621) % 2147483629) (((((seed * 48271 + 69621) % 2147483629 : Nat)) : Int) / 13 % many) .no (md _) (ed_I (ed_intI (ed_I (ed_ixM ed_int rfl ⟨_, _, rfl⟩ rfl) ed_int (div_small (by omega) (by omega)))) (ed_var rfl) h0)
    refine s_seq ?_
    refine s_next ?_
    have rest : ∀ (T : Tm) (cur pos : Nat), Sk ⟨K, B, [a], S⟩ T [.mu false a (.lst [.list (l.map .int), .int (cur : Int), .int (pos : Int), .int (seed : Int)]), .da (.int many), .no] (tSeq (tAsg (tOp (rI (fun _ j => 0 < j) fun i j => .int (i % j)) (tCB (fun xs H Q => (∃ i, xs = [.int i] ∧ Q (.int i) H) ∨ ∃ k, xs = [.bl k] ∧ Q (.int (if k then 1 else 0)) H) (tCons (tOp (rIxL K) (tVar 0) (tC (.int 1))) tNil)) (tVar 1)) (gName 2)) (tSeq (tAsg (tOp (rI CDivG fun i j => .int (i / j)) (tOp (rIxL K) (tVar 0) (tC (.int 1))) (tVar 1)) (gSub (tVar 0) (tC (.int 1)) rSetL)) (tRet (tVar 2))) D) := fun T cur pos => by
      refine s_seq (s_asg (ed_I (ed_intI (ed_ixM ed_int rfl ⟨_, _, rfl⟩ rfl)) (ed_var rfl) h0) (s_le (ρ1 := [.mu false a (.lst [.list (l.map .int), .int (cur : Int), .int (pos : Int), .int (seed : Int)]), .da (.int many), .da (.int ((cur : Int) % many))]) (le_rfl rfl) ?_))
      refine s_seq (s_setL (i := 0) (n := 1) (ed_I (ed_ixM ed_int rfl ⟨_, _, rfl⟩ rfl) (ed_var rfl) (div_small h0 (by omega))) ed_int ⟨_, _, rfl⟩ rfl rfl (s_le (ρ1 := [.mu false a (.lst [.list (l.map .int), .int ((cur / many.toNat : Nat) : Int), .int (pos : Int), .int (seed : Int)]), .da (.int many), .da (.int ((cur : Int) % many))]) (le_rfl ?_) ?_))
      · have e : ((cur / many.toNat : Nat) : Int) = (cur : Int) / many := by rw [Int.natCast_ediv, Int.toNat_of_nonneg (by omega)]
        rw [e]; rfl
      exact fin l _ pos seed _ _ (md _) (ed_var rfl)
    refine s_seq (s_if (b := decide ((cur : Int) = 0)) (et_test (ed_eqI (ed_ixM ed_int rfl ⟨_, _, rfl⟩ rfl) ed_int)) (fun hc2 => ?_) (fun hc2 => ?_))
    · have hp : pos < l.length := by simp only [hc2, Bool.true_and] at hc; have := of_decide_eq_false hc; omega
      refine s_seq (s_setL (i := 0) (n := 1) (ed_abs (ed_ixL (ed_ixM ed_int rfl ⟨_, _, rfl⟩ rfl) (ed_ixM ed_int rfl ⟨_, _, rfl⟩ rfl) (d := .int l[pos]) (by rw [atI_nat (v := PyData.int l[pos]) (by simp [hp])]))) ed_int ⟨_, _, rfl⟩ rfl rfl (s_le (ρ1 := [.mu false a (.lst [.list (l.map .int), .int (l[pos].natAbs : Int), .int (pos : Int), .int (seed : Int)]), .da (.int many), .no]) (le_rfl rfl) ?_))
      refine s_setL (i := 0) (n := 2) (ed_I0 (ed_ixM ed_int rfl ⟨_, _, rfl⟩ rfl) ed_int) ed_int ⟨_, _, rfl⟩ rfl rfl (s_le (ρ1 := [.mu false a (.lst [.list (l.map .int), .int (l[pos].natAbs : Int), .int ((pos + 1 : Nat) : Int), .int (seed : Int)]), .da (.int many), .no]) (le_rfl rfl) ?_)
      exact rest _ _ _
    · refine s_next ?_
      exact rest _ _ _
abbrev s_law_pick : Stmt := topS 32
abbrev N_law_pick : List Str := ["state", "some"]
theorem sc_law_pick : FnScope N_law_pick ["state", "some"] (defScope s_law_pick) := ⟨rfl, rfl, rfl, by decide +kernel, rfl, by decide +kernel, by decide +kernel⟩
theorem ok_law_pick {P : Program} {w : World} {K : PySem.W.Frag} {mg : Str → Option Value} {base : Heap} (B : Gb K mg) (F : Fd K mg "_law_pick" s_law_pick) (C_law_draw : Cl P w K mg base 1 "_law_draw" ["state", "many"] (SpW K R_draw)) : Cl P w K mg base 2 "_law_pick" ["state", "some"] (SpW K R_pick) := by
  obtain ⟨f, fd, F, hm⟩ := F.ex
  refine ⟨f, fd, fnG_of (k := 1) F sc_law_pick (spW_len fun ds d h => ?_) (fun cdv A outer s H hr hgd => ⟨_, (pss_one (ps_ret (pe_ix ix_any (pv 1) (pe_cl C_law_draw (hr.mono (by decide)) hgd (by rfl) (pa_cons (pv 0) (pa_cons (pe_callB call_len_seq (by rfl) B.len_ PySem.boot_len (pa_cons (pv 1) pa_nil)) pa_nil))) (fun _ _ => rfl)))), fun vs Q => fn_draws (N := N_law_pick) (fun ds d h => ?_) (fun B S a ds Φ h D hR => ?_) vs H Q E0⟩), hm, F.kp, F.binds fun _ _ _ _ _ _ us hl => match us, hl with | [_, _], _ => rfl⟩
  · obtain ⟨l, rfl | rfl, _⟩ := h <;> rfl
  · obtain ⟨l, rfl | rfl, _⟩ := h <;> simp
  · obtain ⟨l, hl, h0, h1, hΦ⟩ := h
    rcases hl with rfl | rfl
    · show Ss _ _ [.mu false a (.any StOk), .da (.list l)] _ _
      refine s_retW (i := 0) (ρ1 := [.mu false a (.any StOk), .da (.list l)]) (P := fun d => d ∈ l) (f := fun d => d) (ew_ixAny (ds := l) (.inl rfl) (ed_var rfl) (ew_draw (ew_det (f := PyData.int) (x := (l.length : Int)) (ed_lenL (ed_var rfl))) rfl rfl (by rintro _ rfl; omega)) (by rintro x ⟨m, rfl, hx⟩; exact hx)) rfl hR hΦ
    · show Ss _ _ [.mu false a (.any StOk), .da (.tuple l)] _ _
      refine s_retW (i := 0) (ρ1 := [.mu false a (.any StOk), .da (.tuple l)]) (P := fun d => d ∈ l) (f := fun d => d) (ew_ixAny (ds := l) (.inr rfl) (ed_var rfl) (ew_draw (ew_det (f := PyData.int) (x := (l.length : Int)) (ed_lenT (ed_var rfl))) rfl rfl (by rintro _ rfl; omega)) (by rintro x ⟨m, rfl, hx⟩; exact hx)) rfl hR hΦ


/-! ### is_integer -/
abbrev s_is_integer : Stmt := topS 5
abbrev N_is_integer : List Str := ["value"]
theorem sc_is_integer : FnScope N_is_integer ["value"] (defScope s_is_integer) := ⟨rfl, rfl, rfl, by decide +kernel, rfl, by decide +kernel, by decide +kernel⟩
def R_is_integer : List PyData → PyData → Prop := fun ds d => ∃ (value : PyData), ds = [value] ∧ d = (PyData.bool (isIntD value))
set_option maxHeartbeats 4000000 in
theorem ok_is_integer {P : Program} {w : World} {K : PySem.W.Frag} {mg : Str → Option Value} {base : Heap} (B : Gb K mg) (F : Fd K mg "is_integer" s_is_integer) : Cl P w K mg base 1 "is_integer" ["value"] (SpP K R_is_integer) := by
  have BG := B
  obtain ⟨f, fd, F, hm⟩ := F.ex
  refine ⟨f, fd, fnG_of (k := 0) F sc_is_integer (spP_len fun ds d h => ?_) (fun cdv A outer s H hr hgd => ⟨_, (pss_one (ps_ret (pe_and (pe_callB (r := rIsi K) call_isi (by rfl) B.isinstance_ boot_isinstance (pa_cons (pv 0) (pa_cons (pe_bltn (v := .ty "int") (u := .type "int") (by rfl) B.int_ PyProof.Rows.boot_int rfl) pa_nil))) (pe_one (pe_not (pe_callB (r := rIsi K) call_isi (by rfl) B.isinstance_ boot_isinstance (pa_cons (pv 0) (pa_cons (pe_bltn (v := .ty "bool") (u := .type "bool") (by rfl) B.bool_ (by decide +kernel) rfl) pa_nil)))))))), fun vs Q => fn_pure (N := N_is_integer) (fun ds d h => ?_) (fun B S ds d h D hR hN => ?_) vs H Q E0⟩), hm, F.kp, F.binds fun _ _ _ _ _ _ us hl => match us, hl with | [_], _ => rfl⟩
  · obtain ⟨value, rfl, rfl⟩ := h; rfl
  · obtain ⟨value, rfl, rfl⟩ := h; simp
  · obtain ⟨value, rfl, rfl⟩ := h
    show Ss _ _ [.da value] _ _
    exact s_ret (ed_is (ed_and (ed_isiD (ed_var rfl) (by exact kit_int _)) (fun hb1 => (ed_not (ed_isiD (ed_var rfl) (by exact kit_bool _))))) (by rfl : (PyData.bool ((isi_int value) && (!(isi_bool value)))) = (PyData.bool (isIntD value)))) hR

/-! ### greatest_divisor -/
abbrev s_greatest_divisor : Stmt := topS 10
abbrev N_greatest_divisor : List Str := ["first", "second"]
theorem sc_greatest_divisor : FnScope N_greatest_divisor ["first", "second"] (defScope s_greatest_divisor) := ⟨rfl, rfl, rfl, by decide +kernel, rfl, by decide +kernel, by decide +kernel⟩
def R_greatest_divisor : List PyData → PyData → Prop := fun ds d => ∃ (first : Nat) (second : Nat), ds = [(eN first), (eN second)] ∧ d = (eN (Nat.gcd first second))
set_option maxHeartbeats 4000000 in
theorem ok_greatest_divisor {P : Program} {w : World} {K : PySem.W.Frag} {mg : Str → Option Value} {base : Heap} (B : Gb K mg) (F : Fd K mg "greatest_divisor" s_greatest_divisor) : Cl P w K mg base 1 "greatest_divisor" ["first", "second"] (SpP K R_greatest_divisor) := by
  have BG := B
  obtain ⟨f, fd, F, hm⟩ := F.ex
  refine ⟨f, fd, fnG_of (k := 0) F sc_greatest_divisor (spP_len fun ds d h => ?_) (fun cdv A outer s H hr hgd => ⟨_, (pss_cons (ps_while PassesOwn.never (pt_cmpR op_gt (pv 1) pe_int (nomark _)) (pss_one (ps_par (i := 0) (j := 1) rfl sc_greatest_divisor.nd rfl rfl (by decide) rfl rfl (pa_cons (pv 1) (pa_cons (pe_op op_mod (pv 0) (pv 1)) pa_nil)) rfl rfl))) (pss_one (ps_ret (pv 0)))), fun vs Q => fn_pure (N := N_greatest_divisor) (fun ds d h => ?_) (fun B S ds d h D hR hN => ?_) vs H Q E0⟩), hm, F.kp, F.binds fun _ _ _ _ _ _ us hl => match us, hl with | [_, _], _ => rfl⟩
  · obtain ⟨first, second, rfl, rfl⟩ := h; rfl
  · obtain ⟨first, second, rfl, rfl⟩ := h; simp
  · obtain ⟨first, second, rfl, rfl⟩ := h
    show Ss _ _ [.da (PyData.int (first : Int)), .da (PyData.int (second : Int))] _ _
    refine s_seq (s_while (α := Nat × Nat) (fun a => [.da (PyData.int (a.1 : Int)), .da (PyData.int (a.2 : Int))]) (fun a => Nat.gcd a.1 a.2 = Nat.gcd first second) (fun a => a.2) ((first, second)) (by rfl) (le_da (by rfl) (le_da (by rfl) le_nil)) (fun a hP => ⟨_, _, (et_test (ed_B0 (ed_var rfl) ed_int)), fun hb => ?_, fun hb => ?_⟩))
    · refine (s_par (ea_cons (ed_var rfl) (ea_cons (ed_I (ed_var rfl) (ed_var rfl) (by have := of_decide_eq_true hb; omega)) ea_nil)) (s_le (ρ1 := [.da (PyData.int (a.2 : Int)), .da (PyData.int ((a.1 : Int) % (a.2 : Int)))]) (le_rfl rfl) ?_))
      exact s_endW ((a.2, a.1 % a.2)) (by exact (gcd_turn a.1 a.2).trans hP) (by have := of_decide_eq_true hb; exact Nat.mod_lt _ (by omega)) (le_da (by rfl) (le_da (by rfl) le_nil))
    · exact s_ret (ed_is (ed_var rfl) (by exact gcd_end hP hb : (PyData.int (a.1 : Int)) = (eN (Nat.gcd first second)))) hR

/-! ### quotient -/
abbrev s_quotient : Stmt := topS 11
abbrev N_quotient : List Str := ["up", "down", "divisor"]
theorem sc_quotient : FnScope N_quotient ["up", "down"] (defScope s_quotient) := ⟨rfl, rfl, rfl, by decide +kernel, rfl, by decide +kernel, by decide +kernel⟩
def R_quotient : List PyData → PyData → Prop := fun ds d => ∃ (up : Int) (down : Int), ds = [(PyData.int up), (PyData.int down)] ∧ (down ≠ 0) ∧ (down.natAbs < 2 ^ 8999) ∧ d = (eQ (Rat.divInt up down))
set_option maxHeartbeats 4000000 in
theorem ok_quotient {P : Program} {w : World} {K : PySem.W.Frag} {mg : Str → Option Value} {base : Heap} (B : Gb K mg) (F : Fd K mg "quotient" s_quotient) (C_greatest_divisor : Cl P w K mg base 1 "greatest_divisor" ["first", "second"] (SpP K R_greatest_divisor)) : Cl P w K mg base 2 "quotient" ["up", "down"] (SpP K R_quotient) := by
  have BG := B
  obtain ⟨f, fd, F, hm⟩ := F.ex
  refine ⟨f, fd, fnG_of (k := 1) F sc_quotient (spP_len fun ds d h => ?_) (fun cdv A outer s H hr hgd => ⟨_, (pss_cons (ps_if (pt_cmpR op_lt (pv 1) pe_int (nomark _)) (pss_one (ps_par (i := 0) (j := 1) rfl sc_quotient.nd rfl rfl (by decide) rfl rfl (pa_cons (pe_un un_neg (pv 0)) (pa_cons (pe_un un_neg (pv 1)) pa_nil)) rfl rfl)) pss_nil) (pss_cons (ps_set (i := 2) sc_quotient.nd rfl (Or.inl rfl) (pe_cl C_greatest_divisor (hr.mono (by decide)) hgd (by rfl) (pa_cons (pe_callB call_abs (by rfl) B.abs_ PyProof.Rows.boot_abs (pa_cons (pv 0) pa_nil)) (pa_cons (pv 1) pa_nil)))) (pss_one (ps_ret (pe_tupF (pa_cons (pe_op op_fdivG (pv 0) (pv 2)) (pa_cons (pe_op op_fdivG (pv 1) (pv 2)) pa_nil))))))), fun vs Q => fn_pure (N := N_quotient) (fun ds d h => ?_) (fun B S ds d h D hR hN => ?_) vs H Q E0⟩), hm, F.kp, F.binds fun _ _ _ _ _ _ us hl => match us, hl with | [_, _], _ => rfl⟩
  · obtain ⟨up, down, rfl, h0, h1, rfl⟩ := h; rfl
  · obtain ⟨up, down, rfl, h0, h1, rfl⟩ := h; simp
  · obtain ⟨up, down, rfl, h0, h1, rfl⟩ := h
    show Ss _ _ [.da (PyData.int up), .da (PyData.int down), .no] _ _
    refine s_seq (s_if (b := (decide (down < (0 : Int)))) (et_test (ed_B0 (ed_var rfl) ed_int)) (fun hc0 => ?_) (fun hc0 => ?_))
    · refine (s_par (ea_cons (ed_neg (ed_var rfl)) (ea_cons (ed_neg (ed_var rfl)) ea_nil)) (s_le (ρ1 := [.da (PyData.int (-up)), .da (PyData.int (-down)), .no]) (le_rfl rfl) ?_))
      refine s_seq (s_asg (ed_call (ds := [(eN ((-up)).natAbs), (eN ((-down)).natAbs)]) (ea_cons (ed_abs (ed_var rfl)) (ea_cons (ed_is (ed_var rfl) (by exact eN_abs (by first | (have := of_decide_eq_true hc0; omega) | (have := of_decide_eq_false hc0; omega)) : _ = (eN ((-down)).natAbs))) ea_nil)) ⟨((-up)).natAbs, ((-down)).natAbs, rfl, rfl⟩) (s_le (ρ1 := [.da (PyData.int (-up)), .da (PyData.int (-down)), .da (PyData.int (((Nat.gcd (((-up)).natAbs) (((-down)).natAbs)) : Nat) : Int))]) (le_rfl rfl) ?_))
      exact s_ret (ed_is (ed_tup (ds := [(PyData.int ((-up) / (((Nat.gcd (((-up)).natAbs) (((-down)).natAbs)) : Nat) : Int))), (PyData.int ((-down) / (((Nat.gcd (((-up)).natAbs) (((-down)).natAbs)) : Nat) : Int)))]) (ea_cons (ed_I (ed_var rfl) (ed_var rfl) (by first | exact quo_div h0 h1 | exact quo_div (by omega) (by rw [Int.natAbs_neg]; exact h1))) (ea_cons (ed_I (ed_var rfl) (ed_var rfl) (by first | exact quo_div h0 h1 | exact quo_div (by omega) (by rw [Int.natAbs_neg]; exact h1))) ea_nil))) (by exact quo_neg hc0 : ((eP PyData.int PyData.int) (((-up) / (((Nat.gcd (((-up)).natAbs) (((-down)).natAbs)) : Nat) : Int)), ((-down) / (((Nat.gcd (((-up)).natAbs) (((-down)).natAbs)) : Nat) : Int)))) = (eQ (Rat.divInt up down)))) hR
    · refine s_next ?_
      refine s_seq (s_asg (ed_call (ds := [(eN (up).natAbs), (eN (down).natAbs)]) (ea_cons (ed_abs (ed_var rfl)) (ea_cons (ed_is (ed_var rfl) (by exact eN_abs (by first | (have := of_decide_eq_true hc0; omega) | (have := of_decide_eq_false hc0; omega)) : _ = (eN (down).natAbs))) ea_nil)) ⟨(up).natAbs, (down).natAbs, rfl, rfl⟩) (s_le (ρ1 := [.da (PyData.int up), .da (PyData.int down), .da (PyData.int (((Nat.gcd ((up).natAbs) ((down).natAbs)) : Nat) : Int))]) (le_rfl rfl) ?_))
      exact s_ret (ed_is (ed_tup (ds := [(PyData.int (up / (((Nat.gcd ((up).natAbs) ((down).natAbs)) : Nat) : Int))), (PyData.int (down / (((Nat.gcd ((up).natAbs) ((down).natAbs)) : Nat) : Int)))]) (ea_cons (ed_I (ed_var rfl) (ed_var rfl) (by first | exact quo_div h0 h1 | exact quo_div (by omega) (by rw [Int.natAbs_neg]; exact h1))) (ea_cons (ed_I (ed_var rfl) (ed_var rfl) (by first | exact quo_div h0 h1 | exact quo_div (by omega) (by rw [Int.natAbs_neg]; exact h1))) ea_nil))) (by exact quo_pos h0 hc0 : ((eP PyData.int PyData.int) ((up / (((Nat.gcd ((up).natAbs) ((down).natAbs)) : Nat) : Int)), (down / (((Nat.gcd ((up).natAbs) ((down).natAbs)) : Nat) : Int)))) = (eQ (Rat.divInt up down)))) hR

/-! ### plus -/
abbrev s_plus : Stmt := topS 12
abbrev N_plus : List Str := ["first", "second"]
theorem sc_plus : FnScope N_plus ["first", "second"] (defScope s_plus) := ⟨rfl, rfl, rfl, by decide +kernel, rfl, by decide +kernel, by decide +kernel⟩
def R_plus : List PyData → PyData → Prop := fun ds d => ∃ (first : Rat) (second : Rat), ds = [(eQ first), (eQ second)] ∧ (Qb first) ∧ (Qb second) ∧ d = (eQ (first + second))
set_option maxHeartbeats 4000000 in
theorem ok_plus {P : Program} {w : World} {K : PySem.W.Frag} {mg : Str → Option Value} {base : Heap} (B : Gb K mg) (F : Fd K mg "plus" s_plus) (C_quotient : Cl P w K mg base 2 "quotient" ["up", "down"] (SpP K R_quotient)) : Cl P w K mg base 3 "plus" ["first", "second"] (SpP K R_plus) := by
  have BG := B
  obtain ⟨f, fd, F, hm⟩ := F.ex
  refine ⟨f, fd, fnG_of (k := 2) F sc_plus (spP_len fun ds d h => ?_) (fun cdv A outer s H hr hgd => ⟨_, (pss_one (ps_ret (pe_cl C_quotient (hr.mono (by decide)) hgd (by rfl) (pa_cons (pe_op op_add (pe_op op_mulG (pe_ix (r := rIxT K) ix_tup (pv 0) pe_int (fun _ _ => rfl)) (pe_ix (r := rIxT K) ix_tup (pv 1) pe_int (fun _ _ => rfl))) (pe_op op_mulG (pe_ix (r := rIxT K) ix_tup (pv 1) pe_int (fun _ _ => rfl)) (pe_ix (r := rIxT K) ix_tup (pv 0) pe_int (fun _ _ => rfl)))) (pa_cons (pe_op op_mulG (pe_ix (r := rIxT K) ix_tup (pv 0) pe_int (fun _ _ => rfl)) (pe_ix (r := rIxT K) ix_tup (pv 1) pe_int (fun _ _ => rfl))) pa_nil))))), fun vs Q => fn_pure (N := N_plus) (fun ds d h => ?_) (fun B S ds d h D hR hN => ?_) vs H Q E0⟩), hm, F.kp, F.binds fun _ _ _ _ _ _ us hl => match us, hl with | [_, _], _ => rfl⟩
  · obtain ⟨first, second, rfl, h0, h1, rfl⟩ := h; rfl
  · obtain ⟨first, second, rfl, h0, h1, rfl⟩ := h; simp
  · obtain ⟨first, second, rfl, h0, h1, rfl⟩ := h
    show Ss _ _ [.da (eQ first), .da (eQ second)] _ _
    exact s_ret (ed_is (ed_call (ds := [(PyData.int (((first).num * ((second).den : Int)) + ((second).num * ((first).den : Int)))), (PyData.int (((first).den : Int) * ((second).den : Int)))]) (ea_cons (ed_I0 (ed_I (ed_ixT (ed_var rfl) ed_int rfl) (ed_ixT (ed_var rfl) ed_int rfl) (by first | exact mul_nd h0 h1 | exact mul_nd h1 h0 | exact mul_dd h0 h1)) (ed_I (ed_ixT (ed_var rfl) ed_int rfl) (ed_ixT (ed_var rfl) ed_int rfl) (by first | exact mul_nd h0 h1 | exact mul_nd h1 h0 | exact mul_dd h0 h1))) (ea_cons (ed_I (ed_ixT (ed_var rfl) ed_int rfl) (ed_ixT (ed_var rfl) ed_int rfl) (by first | exact mul_nd h0 h1 | exact mul_nd h1 h0 | exact mul_dd h0 h1)) ea_nil)) ⟨(((first).num * ((second).den : Int)) + ((second).num * ((first).den : Int))), (((first).den : Int) * ((second).den : Int)), rfl, by exact den_nz2 first second, by exact den_lt2 h0 h1, rfl⟩) (by rw [q_add] : (eQ (Rat.divInt ((((first).num * ((second).den : Int)) + ((second).num * ((first).den : Int)))) ((((first).den : Int) * ((second).den : Int))))) = (eQ (first + second)))) hR

/-! ### minus -/
abbrev s_minus : Stmt := topS 13
abbrev N_minus : List Str := ["first", "second"]
theorem sc_minus : FnScope N_minus ["first", "second"] (defScope s_minus) := ⟨rfl, rfl, rfl, by decide +kernel, rfl, by decide +kernel, by decide +kernel⟩
def R_minus : List PyData → PyData → Prop := fun ds d => ∃ (first : Rat) (second : Rat), ds = [(eQ first), (eQ second)] ∧ (Qb first) ∧ (Qb second) ∧ d = (eQ (first - second))
set_option maxHeartbeats 4000000 in
theorem ok_minus {P : Program} {w : World} {K : PySem.W.Frag} {mg : Str → Option Value} {base : Heap} (B : Gb K mg) (F : Fd K mg "minus" s_minus) (C_quotient : Cl P w K mg base 2 "quotient" ["up", "down"] (SpP K R_quotient)) : Cl P w K mg base 3 "minus" ["first", "second"] (SpP K R_minus) := by
  have BG := B
  obtain ⟨f, fd, F, hm⟩ := F.ex
  refine ⟨f, fd, fnG_of (k := 2) F sc_minus (spP_len fun ds d h => ?_) (fun cdv A outer s H hr hgd => ⟨_, (pss_one (ps_ret (pe_cl C_quotient (hr.mono (by decide)) hgd (by rfl) (pa_cons (pe_op op_sub (pe_op op_mulG (pe_ix (r := rIxT K) ix_tup (pv 0) pe_int (fun _ _ => rfl)) (pe_ix (r := rIxT K) ix_tup (pv 1) pe_int (fun _ _ => rfl))) (pe_op op_mulG (pe_ix (r := rIxT K) ix_tup (pv 1) pe_int (fun _ _ => rfl)) (pe_ix (r := rIxT K) ix_tup (pv 0) pe_int (fun _ _ => rfl)))) (pa_cons (pe_op op_mulG (pe_ix (r := rIxT K) ix_tup (pv 0) pe_int (fun _ _ => rfl)) (pe_ix (r := rIxT K) ix_tup (pv 1) pe_int (fun _ _ => rfl))) pa_nil))))), fun vs Q => fn_pure (N := N_minus) (fun ds d h => ?_) (fun B S ds d h D hR hN => ?_) vs H Q E0⟩), hm, F.kp, F.binds fun _ _ _ _ _ _ us hl => match us, hl with | [_, _], _ => rfl⟩
  · obtain ⟨first, second, rfl, h0, h1, rfl⟩ := h; rfl
  · obtain ⟨first, second, rfl, h0, h1, rfl⟩ := h; simp
  · obtain ⟨first, second, rfl, h0, h1, rfl⟩ := h
    show Ss _ _ [.da (eQ first), .da (eQ second)] _ _
    exact s_ret (ed_is (ed_call (ds := [(PyData.int (((first).num * ((second).den : Int)) - ((second).num * ((first).den : Int)))), (PyData.int (((first).den : Int) * ((second).den : Int)))]) (ea_cons (ed_I0 (ed_I (ed_ixT (ed_var rfl) ed_int rfl) (ed_ixT (ed_var rfl) ed_int rfl) (by first | exact mul_nd h0 h1 | exact mul_nd h1 h0 | exact mul_dd h0 h1)) (ed_I (ed_ixT (ed_var rfl) ed_int rfl) (ed_ixT (ed_var rfl) ed_int rfl) (by first | exact mul_nd h0 h1 | exact mul_nd h1 h0 | exact mul_dd h0 h1))) (ea_cons (ed_I (ed_ixT (ed_var rfl) ed_int rfl) (ed_ixT (ed_var rfl) ed_int rfl) (by first | exact mul_nd h0 h1 | exact mul_nd h1 h0 | exact mul_dd h0 h1)) ea_nil)) ⟨(((first).num * ((second).den : Int)) - ((second).num * ((first).den : Int))), (((first).den : Int) * ((second).den : Int)), rfl, by exact den_nz2 first second, by exact den_lt2 h0 h1, rfl⟩) (by rw [q_sub] : (eQ (Rat.divInt ((((first).num * ((second).den : Int)) - ((second).num * ((first).den : Int)))) ((((first).den : Int) * ((second).den : Int))))) = (eQ (first - second)))) hR

/-! ### times -/
abbrev s_times : Stmt := topS 14
abbrev N_times : List Str := ["first", "second"]
theorem sc_times : FnScope N_times ["first", "second"] (defScope s_times) := ⟨rfl, rfl, rfl, by decide +kernel, rfl, by decide +kernel, by decide +kernel⟩
def R_times : List PyData → PyData → Prop := fun ds d => ∃ (first : Rat) (second : Rat), ds = [(eQ first), (eQ second)] ∧ (Qb first) ∧ (Qb second) ∧ d = (eQ (first * second))
set_option maxHeartbeats 4000000 in
theorem ok_times {P : Program} {w : World} {K : PySem.W.Frag} {mg : Str → Option Value} {base : Heap} (B : Gb K mg) (F : Fd K mg "times" s_times) (C_quotient : Cl P w K mg base 2 "quotient" ["up", "down"] (SpP K R_quotient)) : Cl P w K mg base 3 "times" ["first", "second"] (SpP K R_times) := by
  have BG := B
  obtain ⟨f, fd, F, hm⟩ := F.ex
  refine ⟨f, fd, fnG_of (k := 2) F sc_times (spP_len fun ds d h => ?_) (fun cdv A outer s H hr hgd => ⟨_, (pss_one (ps_ret (pe_cl C_quotient (hr.mono (by decide)) hgd (by rfl) (pa_cons (pe_op op_mulG (pe_ix (r := rIxT K) ix_tup (pv 0) pe_int (fun _ _ => rfl)) (pe_ix (r := rIxT K) ix_tup (pv 1) pe_int (fun _ _ => rfl))) (pa_cons (pe_op op_mulG (pe_ix (r := rIxT K) ix_tup (pv 0) pe_int (fun _ _ => rfl)) (pe_ix (r := rIxT K) ix_tup (pv 1) pe_int (fun _ _ => rfl))) pa_nil))))), fun vs Q => fn_pure (N := N_times) (fun ds d h => ?_) (fun B S ds d h D hR hN => ?_) vs H Q E0⟩), hm, F.kp, F.binds fun _ _ _ _ _ _ us hl => match us, hl with | [_, _], _ => rfl⟩
  · obtain ⟨first, second, rfl, h0, h1, rfl⟩ := h; rfl
  · obtain ⟨first, second, rfl, h0, h1, rfl⟩ := h; simp
  · obtain ⟨first, second, rfl, h0, h1, rfl⟩ := h
    show Ss _ _ [.da (eQ first), .da (eQ second)] _ _
    exact s_ret (ed_is (ed_call (ds := [(PyData.int ((first).num * (second).num)), (PyData.int (((first).den : Int) * ((second).den : Int)))]) (ea_cons (ed_I (ed_ixT (ed_var rfl) ed_int rfl) (ed_ixT (ed_var rfl) ed_int rfl) (by first | exact mul_nn h0 h1 | exact mul_dd h0 h1)) (ea_cons (ed_I (ed_ixT (ed_var rfl) ed_int rfl) (ed_ixT (ed_var rfl) ed_int rfl) (by first | exact mul_nn h0 h1 | exact mul_dd h0 h1)) ea_nil)) ⟨((first).num * (second).num), (((first).den : Int) * ((second).den : Int)), rfl, by exact den_nz2 first second, by exact den_lt2 h0 h1, rfl⟩) (by rw [q_mul] : (eQ (Rat.divInt (((first).num * (second).num)) ((((first).den : Int) * ((second).den : Int))))) = (eQ (first * second)))) hR

/-! ### over -/
abbrev s_over : Stmt := topS 15
abbrev N_over : List Str := ["first", "second"]
theorem sc_over : FnScope N_over ["first", "second"] (defScope s_over) := ⟨rfl, rfl, rfl, by decide +kernel, rfl, by decide +kernel, by decide +kernel⟩
def R_over : List PyData → PyData → Prop := fun ds d => ∃ (first : Rat) (second : Rat), ds = [(eQ first), (eQ second)] ∧ (Qb first) ∧ (Qb second) ∧ (second ≠ 0) ∧ d = (eQ (first / second))
set_option maxHeartbeats 4000000 in
theorem ok_over {P : Program} {w : World} {K : PySem.W.Frag} {mg : Str → Option Value} {base : Heap} (B : Gb K mg) (F : Fd K mg "over" s_over) (C_quotient : Cl P w K mg base 2 "quotient" ["up", "down"] (SpP K R_quotient)) : Cl P w K mg base 3 "over" ["first", "second"] (SpP K R_over) := by
  have BG := B
  obtain ⟨f, fd, F, hm⟩ := F.ex
  refine ⟨f, fd, fnG_of (k := 2) F sc_over (spP_len fun ds d h => ?_) (fun cdv A outer s H hr hgd => ⟨_, (pss_one (ps_ret (pe_cl C_quotient (hr.mono (by decide)) hgd (by rfl) (pa_cons (pe_op op_mulG (pe_ix (r := rIxT K) ix_tup (pv 0) pe_int (fun _ _ => rfl)) (pe_ix (r := rIxT K) ix_tup (pv 1) pe_int (fun _ _ => rfl))) (pa_cons (pe_op op_mulG (pe_ix (r := rIxT K) ix_tup (pv 0) pe_int (fun _ _ => rfl)) (pe_ix (r := rIxT K) ix_tup (pv 1) pe_int (fun _ _ => rfl))) pa_nil))))), fun vs Q => fn_pure (N := N_over) (fun ds d h => ?_) (fun B S ds d h D hR hN => ?_) vs H Q E0⟩), hm, F.kp, F.binds fun _ _ _ _ _ _ us hl => match us, hl with | [_, _], _ => rfl⟩
  · obtain ⟨first, second, rfl, h0, h1, h2, rfl⟩ := h; rfl
  · obtain ⟨first, second, rfl, h0, h1, h2, rfl⟩ := h; simp
  · obtain ⟨first, second, rfl, h0, h1, h2, rfl⟩ := h
    show Ss _ _ [.da (eQ first), .da (eQ second)] _ _
    exact s_ret (ed_is (ed_call (ds := [(PyData.int ((first).num * ((second).den : Int))), (PyData.int (((first).den : Int) * (second).num))]) (ea_cons (ed_I (ed_ixT (ed_var rfl) ed_int rfl) (ed_ixT (ed_var rfl) ed_int rfl) (by first | exact mul_nd h0 h1 | exact mul_dn h0 h1)) (ea_cons (ed_I (ed_ixT (ed_var rfl) ed_int rfl) (ed_ixT (ed_var rfl) ed_int rfl) (by first | exact mul_nd h0 h1 | exact mul_dn h0 h1)) ea_nil)) ⟨((first).num * ((second).den : Int)), (((first).den : Int) * (second).num), rfl, by exact den_nz3 first h2, by exact den_lt3 h0 h1, rfl⟩) (by rw [q_div] : (eQ (Rat.divInt (((first).num * ((second).den : Int))) ((((first).den : Int) * (second).num)))) = (eQ (first / second)))) hR

/-! ### is_quotient -/
abbrev s_is_quotient : Stmt := topS 16
abbrev N_is_quotient : List Str := ["value", "part"]
theorem sc_is_quotient : FnScope N_is_quotient ["value"] (defScope s_is_quotient) := ⟨rfl, rfl, rfl, by decide +kernel, rfl, by decide +kernel, by decide +kernel⟩
def R_is_quotient : List PyData → PyData → Prop := fun ds d => ∃ (value : Rat), ds = [(eQ value)] ∧ d = (PyData.bool (true))
set_option maxHeartbeats 4000000 in
theorem ok_is_quotient {P : Program} {w : World} {K : PySem.W.Frag} {mg : Str → Option Value} {base : Heap} (B : Gb K mg) (F : Fd K mg "is_quotient" s_is_quotient) (C_greatest_divisor : Cl P w K mg base 1 "greatest_divisor" ["first", "second"] (SpP K R_greatest_divisor)) (C_is_integer : Cl P w K mg base 1 "is_integer" ["value"] (SpP K R_is_integer)) : Cl P w K mg base 2 "is_quotient" ["value"] (SpP K R_is_quotient) := by
  have BG := B
  obtain ⟨f, fd, F, hm⟩ := F.ex
  refine ⟨f, fd, fnG_of (k := 1) F sc_is_quotient (spP_len fun ds d h => ?_) (fun cdv A outer s H hr hgd => ⟨_, (pss_cons (ps_if (PW.pt (pw_or (pt_not (pt_truth (pe_callB (r := rIsi K) call_isi (by rfl) B.isinstance_ boot_isinstance (pa_cons (pv 0) (pa_cons (pe_bltn (v := .ty "tuple") (u := .type "tuple") (by rfl) B.tuple_ PyProof.Rows.boot_tuple rfl) pa_nil))) (fun _ => rfl))) (pw_or (pt_cmpR (r := rNeD K) (op_neD hr.units) (pe_callB (r := rLenS K) call_len_seq (by rfl) B.len_ PySem.boot_len (pa_cons (pv 0) pa_nil)) pe_int (nomark _)) (pw_or1 (pt_not (pt_truth (pe_callB (r := rAll K) (cr_all rfl) (by rfl) B.all_ (by decide +kernel) (pa_cons (pe_lc (own := [("part", 1)]) (g := _) (tt := tYes) rfl sc_is_quotient.nd (pi_tup (pv 0)) (blkOk_by (N := N_is_quotient) (sc := defScope s_is_quotient) (by decide +kernel)) (fun _ _ _ _ _ => (pg_name (i := 1) sc_is_quotient.nd rfl (by first | exact Or.inl rfl | exact Or.inr rfl))) (fun _ _ _ _ _ => pts_nil) (fun _ _ _ _ _ => (pe_cl C_is_integer (hr.mono (by decide)) hgd (by rfl) (pa_cons (pv 1) pa_nil)))) pa_nil)) (fun _ => rfl))))))) pss_never pss_nil) (pss_one (ps_ret (pe_and (pe_cmpR op_ge (pe_ix (r := rIxT K) ix_tup (pv 0) pe_int (fun _ _ => rfl)) pe_int (nomark _)) (pe_one (pe_cmpR (r := rEqD K) (op_eqD hr.units) (pe_cl C_greatest_divisor (hr.mono (by decide)) hgd (by rfl) (pa_cons (pe_callB call_abs (by rfl) B.abs_ PyProof.Rows.boot_abs (pa_cons (pe_ix (r := rIxT K) ix_tup (pv 0) pe_int (fun _ _ => rfl)) pa_nil)) (pa_cons (pe_ix (r := rIxT K) ix_tup (pv 0) pe_int (fun _ _ => rfl)) pa_nil))) pe_int (nomark _))))))), fun vs Q => fn_pure (N := N_is_quotient) (fun ds d h => ?_) (fun B S ds d h D hR hN => ?_) vs H Q E0⟩), hm, F.kp, F.binds fun _ _ _ _ _ _ us hl => match us, hl with | [_], _ => rfl⟩
  · obtain ⟨value, rfl, rfl⟩ := h; rfl
  · obtain ⟨value, rfl, rfl⟩ := h; simp
  · obtain ⟨value, rfl, rfl⟩ := h
    show Ss _ _ [.da (eQ value), .no] _ _
    refine s_seq (s_if (b := ((!true) || ((!decide ((2 : Int) = (2 : Int))) || (!(((([(value).num, ((value).den : Int)]).map fun (x1 : Int) => (isIntD ((PyData.int x1))))).all id))))) (et_or (et_not (et_truB (ed_isi (ed_var rfl) (show kitB "tuple" "tuple" = some true by decide +kernel)))) (fun hb3 => (et_or (et_test (ed_neI (ed_is (ed_lenT (ed_var rfl)) rfl) ed_int)) (fun hb2 => (et_not (et_truB (ed_all (ed_L (el_lcAX (xs := [(value).num, ((value).den : Int)]) (ea := fun x => Itm.hard (PyData.int x)) (enc := PyData.bool) (fb := fun (x1 : Int) => (isIntD ((PyData.int x1)))) (ei_tupX (ed_is (ed_var rfl) (rfl : _ = ((eT PyData.int) [(value).num, ((value).den : Int)])))) (by simp) (by simp) (fun _ _ x1 hx1 => ⟨_, rfl, (eg_name (by simp)), (ed_call (ds := [(PyData.int x1)]) (ea_cons (ed_var rfl) ea_nil) ⟨(PyData.int x1), rfl, rfl⟩)⟩)))))))))) (fun hc0 => ?_) (fun hc0 => ?_))
    · exact absurd hc0 (by simp [isIntD, isi_int, isi_bool])
    · refine s_next ?_
      exact s_ret (ed_is (ed_and (ed_B0 (ed_ixT (ed_var rfl) ed_int rfl) ed_int) (fun hb4 => (ed_eqI (ed_call (ds := [(eN ((value).num).natAbs), (eN (value).den)]) (ea_cons (ed_abs (ed_ixT (ed_var rfl) ed_int rfl)) (ea_cons (ed_is (ed_ixT (ed_var rfl) ed_int rfl) (by rfl : _ = (eN (value).den))) ea_nil)) ⟨((value).num).natAbs, (value).den, rfl, rfl⟩) ed_int))) (by rw [Q_gcd]; have := value.den_pos; simp; omega : (PyData.bool ((decide ((1 : Int) ≤ ((value).den : Int))) && (decide ((((Nat.gcd (((value).num).natAbs) ((value).den)) : Nat) : Int) = (1 : Int))))) = (PyData.bool (true)))) hR

/-! ### is_step -/
abbrev s_is_step : Stmt := topS 18
abbrev N_is_step : List Str := ["value"]
theorem sc_is_step : FnScope N_is_step ["value"] (defScope s_is_step) := ⟨rfl, rfl, rfl, by decide +kernel, rfl, by decide +kernel, by decide +kernel⟩
def R_is_step : List PyData → PyData → Prop := fun ds d => ∃ (value : Rat), ds = [(eQ value)] ∧ (SpOk value) ∧ d = (PyData.bool (true))
set_option maxHeartbeats 4000000 in
theorem ok_is_step {P : Program} {w : World} {K : PySem.W.Frag} {mg : Str → Option Value} {base : Heap} (B : Gb K mg) (F : Fd K mg "is_step" s_is_step) (C_is_quotient : Cl P w K mg base 2 "is_quotient" ["value"] (SpP K R_is_quotient)) : Cl P w K mg base 3 "is_step" ["value"] (SpP K R_is_step) := by
  have BG := B
  obtain ⟨f, fd, F, hm⟩ := F.ex
  refine ⟨f, fd, fnG_of (k := 2) F sc_is_step (spP_len fun ds d h => ?_) (fun cdv A outer s H hr hgd => ⟨_, (pss_one (ps_ret (pe_and (pe_cl C_is_quotient (hr.mono (by decide)) hgd (by rfl) (pa_cons (pv 0) pa_nil)) (pe_one (pe_chain3 op_le op_lt op_le pe_int (pe_ix (r := rIxT K) ix_tup (pv 0) pe_int (fun _ _ => rfl)) (pe_ix (r := rIxT K) ix_tup (pv 0) pe_int (fun _ _ => rfl)) (pe_glob (v := .int 1000) rfl B.c_MAX_PART.choose_spec ⟨_, rfl⟩)))))), fun vs Q => fn_pure (N := N_is_step) (fun ds d h => ?_) (fun B S ds d h D hR hN => ?_) vs H Q E0⟩), hm, F.kp, F.binds fun _ _ _ _ _ _ us hl => match us, hl with | [_], _ => rfl⟩
  · obtain ⟨value, rfl, h0, rfl⟩ := h; rfl
  · obtain ⟨value, rfl, h0, rfl⟩ := h; simp
  · obtain ⟨value, rfl, h0, rfl⟩ := h
    show Ss _ _ [.da (eQ value)] _ _
    exact s_ret (ed_is (ed_and (ed_call (ds := [(eQ value)]) (ea_cons (ed_var rfl) ea_nil) ⟨value, rfl, rfl⟩) (fun hb1 => (ed_chain3 ed_int (ed_ixT (ed_var rfl) ed_int rfl) (ed_ixT (ed_var rfl) ed_int rfl) ed_int))) (by rw [Bool.true_and, stp_chk h0] : (PyData.bool ((true) && (decide ((1 : Int) ≤ (value).num) && (decide ((value).num < ((value).den : Int)) && decide (((value).den : Int) ≤ (1000 : Int)))))) = (PyData.bool (true)))) hR

/-! ### check_walk -/
abbrev s_check_walk : Stmt := topS 19
abbrev N_check_walk : List Str := ["walk", "step"]
theorem sc_check_walk : FnScope N_check_walk ["walk"] (defScope s_check_walk) := ⟨rfl, rfl, rfl, by decide +kernel, rfl, by decide +kernel, by decide +kernel⟩
def R_check_walk : List PyData → PyData → Prop := fun ds d => ∃ (walk : (List Rat)), ds = [((eT eQ) walk)] ∧ (WkOk walk) ∧ d = PyData.none
set_option maxHeartbeats 4000000 in
theorem ok_check_walk {P : Program} {w : World} {K : PySem.W.Frag} {mg : Str → Option Value} {base : Heap} (B : Gb K mg) (F : Fd K mg "check_walk" s_check_walk) (C_is_step : Cl P w K mg base 3 "is_step" ["value"] (SpP K R_is_step)) : Cl P w K mg base 4 "check_walk" ["walk"] (SpP K R_check_walk) := by
  have BG := B
  obtain ⟨f, fd, F, hm⟩ := F.ex
  refine ⟨f, fd, fnG_of (k := 3) F sc_check_walk (spP_len fun ds d h => ?_) (fun cdv A outer s H hr hgd => ⟨_, (pss_one (ps_if (PW.pt (pw_or (pt_not (pt_truth (pe_callB (r := rIsi K) call_isi (by rfl) B.isinstance_ boot_isinstance (pa_cons (pv 0) (pa_cons (pe_bltn (v := .ty "tuple") (u := .type "tuple") (by rfl) B.tuple_ PyProof.Rows.boot_tuple rfl) pa_nil))) (fun _ => rfl))) (pw_or (pt_not (pt_chain op_le op_le pe_int (pe_callB (r := rLenS K) call_len_seq (by rfl) B.len_ PySem.boot_len (pa_cons (pv 0) pa_nil)) (pe_glob (v := .int 30) rfl B.c_MAX_WAY.choose_spec ⟨_, rfl⟩))) (pw_or1 (pt_not (pt_truth (pe_callB (r := rAll K) (cr_all rfl) (by rfl) B.all_ (by decide +kernel) (pa_cons (pe_lc (own := [("step", 1)]) (g := _) (tt := tYes) rfl sc_check_walk.nd (pi_tup (pv 0)) (blkOk_by (N := N_check_walk) (sc := defScope s_check_walk) (by decide +kernel)) (fun _ _ _ _ _ => (pg_name (i := 1) sc_check_walk.nd rfl (by first | exact Or.inl rfl | exact Or.inr rfl))) (fun _ _ _ _ _ => pts_nil) (fun _ _ _ _ _ => (pe_cl C_is_step (hr.mono (by decide)) hgd (by rfl) (pa_cons (pv 1) pa_nil)))) pa_nil)) (fun _ => rfl))))))) pss_never pss_nil)), fun vs Q => fn_pure (N := N_check_walk) (fun ds d h => ?_) (fun B S ds d h D hR hN => ?_) vs H Q E0⟩), hm, F.kp, F.binds fun _ _ _ _ _ _ us hl => match us, hl with | [_], _ => rfl⟩
  · obtain ⟨walk, rfl, h0, rfl⟩ := h; rfl
  · obtain ⟨walk, rfl, h0, rfl⟩ := h; simp
  · obtain ⟨walk, rfl, h0, rfl⟩ := h
    have hw1 := h0.1.1
    have hw2 := h0.1.2
    show Ss _ _ [.da ((eT eQ) walk), .no] _ _
    refine (s_skip (et_or (et_not (et_truB (ed_isi (ed_var rfl) (show kitB "tuple" "tuple" = some true by decide +kernel)))) (fun hb4 => (et_or (et_not (et_chain (ed_chain ed_int (ed_lenTX (ed_var rfl)) (fun hb1 => ed_int)))) (fun hb3 => (et_not (et_truB (ed_all (ed_L (el_lcAX (xs := walk) (ea := fun x => Itm.hard (eQ x)) (enc := PyData.bool) (fb := fun (x2 : Rat) => (true)) (ei_tupX (ed_var rfl)) (by omega) (by simp) (fun _ _ x2 hx2 => ⟨_, rfl, (eg_name (by simp)), (ed_call (ds := [(eQ x2)]) (ea_cons (ed_var rfl) ea_nil) ⟨x2, rfl, by exact h0.2 _ (by assumption), rfl⟩)⟩)))))))))) (by rw [all_id (fun _ _ => rfl)]; simp; omega : ((!true) || ((!(decide ((1 : Int) ≤ ((walk).length : Int)) && decide (((walk).length : Int) ≤ (30 : Int)))) || (!((((walk).map fun (x2 : Rat) => (true))).all id)))) = false) ?_)
    exact hN rfl _ _

/-! ### check_place -/
abbrev s_check_place : Stmt := topS 20
abbrev N_check_place : List Str := ["walk", "place"]
theorem sc_check_place : FnScope N_check_place ["walk", "place"] (defScope s_check_place) := ⟨rfl, rfl, rfl, by decide +kernel, rfl, by decide +kernel, by decide +kernel⟩
def R_check_place : List PyData → PyData → Prop := fun ds d => ∃ (walk : (List Rat)) (place : Int), ds = [((eT eQ) walk), (PyData.int place)] ∧ (WkOk walk) ∧ (0 ≤ place ∧ place ≤ (walk.length : Int) + 1) ∧ d = PyData.none
set_option maxHeartbeats 4000000 in
theorem ok_check_place {P : Program} {w : World} {K : PySem.W.Frag} {mg : Str → Option Value} {base : Heap} (B : Gb K mg) (F : Fd K mg "check_place" s_check_place) (C_is_integer : Cl P w K mg base 1 "is_integer" ["value"] (SpP K R_is_integer)) : Cl P w K mg base 2 "check_place" ["walk", "place"] (SpP K R_check_place) := by
  have BG := B
  obtain ⟨f, fd, F, hm⟩ := F.ex
  refine ⟨f, fd, fnG_of (k := 1) F sc_check_place (spP_len fun ds d h => ?_) (fun cdv A outer s H hr hgd => ⟨_, (pss_one (ps_if (PW.pt (pw_or (pt_not (pt_truth (pe_cl C_is_integer (hr.mono (by decide)) hgd (by rfl) (pa_cons (pv 1) pa_nil)) (fun _ => rfl))) (pw_or1 (pt_not (pt_chain op_le op_le pe_int (pv 1) (pe_op op_add (pe_callB (r := rLenS K) call_len_seq (by rfl) B.len_ PySem.boot_len (pa_cons (pv 0) pa_nil)) pe_int)))))) pss_never pss_nil)), fun vs Q => fn_pure (N := N_check_place) (fun ds d h => ?_) (fun B S ds d h D hR hN => ?_) vs H Q E0⟩), hm, F.kp, F.binds fun _ _ _ _ _ _ us hl => match us, hl with | [_, _], _ => rfl⟩
  · obtain ⟨walk, place, rfl, h0, h1, rfl⟩ := h; rfl
  · obtain ⟨walk, place, rfl, h0, h1, rfl⟩ := h; simp
  · obtain ⟨walk, place, rfl, h0, h1, rfl⟩ := h
    show Ss _ _ [.da ((eT eQ) walk), .da (PyData.int place)] _ _
    refine (s_skip (et_or (et_not (et_truB (ed_call (ds := [(PyData.int place)]) (ea_cons (ed_var rfl) ea_nil) ⟨(PyData.int place), rfl, rfl⟩))) (fun hb2 => (et_not (et_chain (ed_chain ed_int (ed_var rfl) (fun hb1 => (ed_I0 (ed_lenTX (ed_var rfl)) ed_int))))))) (by simp [isIntD, isi_int, isi_bool]; omega : ((!(isIntD ((PyData.int place)))) || (!(decide ((0 : Int) ≤ place) && decide (place ≤ (((walk).length : Int) + (1 : Int)))))) = false) ?_)
    exact hN rfl _ _

/-! ### down_of -/
abbrev s_down_of : Stmt := topS 21
abbrev N_down_of : List Str := ["step"]
theorem sc_down_of : FnScope N_down_of ["step"] (defScope s_down_of) := ⟨rfl, rfl, rfl, by decide +kernel, rfl, by decide +kernel, by decide +kernel⟩
def R_down_of : List PyData → PyData → Prop := fun ds d => ∃ (step : Rat), ds = [(eQ step)] ∧ (Qk 5 step) ∧ d = (eQ (1 - step))
set_option maxHeartbeats 4000000 in
theorem ok_down_of {P : Program} {w : World} {K : PySem.W.Frag} {mg : Str → Option Value} {base : Heap} (B : Gb K mg) (F : Fd K mg "down_of" s_down_of) (C_minus : Cl P w K mg base 3 "minus" ["first", "second"] (SpP K R_minus)) : Cl P w K mg base 4 "down_of" ["step"] (SpP K R_down_of) := by
  have BG := B
  obtain ⟨f, fd, F, hm⟩ := F.ex
  refine ⟨f, fd, fnG_of (k := 3) F sc_down_of (spP_len fun ds d h => ?_) (fun cdv A outer s H hr hgd => ⟨_, (pss_one (ps_ret (pe_cl C_minus (hr.mono (by decide)) hgd (by rfl) (pa_cons (pe_tupF (pa_cons pe_int (pa_cons pe_int pa_nil))) (pa_cons (pv 0) pa_nil))))), fun vs Q => fn_pure (N := N_down_of) (fun ds d h => ?_) (fun B S ds d h D hR hN => ?_) vs H Q E0⟩), hm, F.kp, F.binds fun _ _ _ _ _ _ us hl => match us, hl with | [_], _ => rfl⟩
  · obtain ⟨step, rfl, h0, rfl⟩ := h; rfl
  · obtain ⟨step, rfl, h0, rfl⟩ := h; simp
  · obtain ⟨step, rfl, h0, rfl⟩ := h
    show Ss _ _ [.da (eQ step)] _ _
    exact s_ret (ed_is (ed_call (ds := [(eQ (1 : Rat)), (eQ step)]) (ea_cons (ed_is (d1 := eQ (1 : Rat)) (ed_tup (ds := [PyData.int (1 : Int), PyData.int (1 : Int)]) (ea_cons ed_int (ea_cons ed_int ea_nil))) (by rfl)) (ea_cons (ed_var rfl) ea_nil)) ⟨(1 : Rat), step, rfl, by exact (Qk_one 0).qb (by decide), by exact h0.qb (by decide), rfl⟩) (by rfl : (eQ (((1 : Rat)) - (step))) = (eQ (1 - step)))) hR

/-! ### top_chances -/
abbrev s_top_chances : Stmt := topS 22
abbrev N_top_chances : List Str := ["walk", "gaps", "step", "heights", "gap", "height"]
theorem sc_top_chances : FnScope N_top_chances ["walk"] (defScope s_top_chances) := ⟨rfl, rfl, rfl, by decide +kernel, rfl, by decide +kernel, by decide +kernel⟩
def R_top_chances : List PyData → PyData → Prop := fun ds d => ∃ (walk : (List Rat)), ds = [((eT eQ) walk)] ∧ (WkOk walk) ∧ d = ((eT eQ) (topsF walk))
set_option maxHeartbeats 4000000 in
theorem ok_top_chances {P : Program} {w : World} {K : PySem.W.Frag} {mg : Str → Option Value} {base : Heap} (B : Gb K mg) (F : Fd K mg "top_chances" s_top_chances) (C_check_walk : Cl P w K mg base 4 "check_walk" ["walk"] (SpP K R_check_walk)) (C_down_of : Cl P w K mg base 4 "down_of" ["step"] (SpP K R_down_of)) (C_over : Cl P w K mg base 3 "over" ["first", "second"] (SpP K R_over)) (C_plus : Cl P w K mg base 3 "plus" ["first", "second"] (SpP K R_plus)) (C_times : Cl P w K mg base 3 "times" ["first", "second"] (SpP K R_times)) : Cl P w K mg base 5 "top_chances" ["walk"] (SpP K R_top_chances) := by
  have BG := B
  obtain ⟨f, fd, F, hm⟩ := F.ex
  refine ⟨f, fd, fnG_of (k := 4) F sc_top_chances (spP_len fun ds d h => ?_) (fun cdv A outer s H hr hgd => ⟨_, (pss_cons (ps_expr (pe_cl C_check_walk (hr.mono (by decide)) hgd (by rfl) (pa_cons (pv 0) pa_nil))) (pss_cons (ps_set (i := 1) sc_top_chances.nd rfl (Or.inl rfl) (pe_lst (pa_cons (pe_tupF (pa_cons pe_int (pa_cons pe_int pa_nil))) pa_nil))) (pss_cons (ps_for PassesOwn.never rfl (pi_tup (pv 0)) (pg_name (i := 2) sc_top_chances.nd rfl (Or.inl rfl)) (pss_one (ps_expr (pe_bm PySem.F.plainAttrs_list PySem.F.slot_list_append PySem.F.type_list_append mt_append (pv 1) (pa_cons (pe_cl C_times (hr.mono (by decide)) hgd (by rfl) (pa_cons (pe_ix (r := rIxL K) ix_list (pv 1) (pe_un un_neg pe_int) (fun _ _ => rfl)) (pa_cons (pe_cl C_over (hr.mono (by decide)) hgd (by rfl) (pa_cons (pe_cl C_down_of (hr.mono (by decide)) hgd (by rfl) (pa_cons (pv 2) pa_nil)) (pa_cons (pv 2) pa_nil))) pa_nil))) pa_nil))))) (pss_cons (ps_set (i := 3) sc_top_chances.nd rfl (Or.inr rfl) (pe_lst (pa_cons (pe_tupF (pa_cons pe_int (pa_cons pe_int pa_nil))) pa_nil))) (pss_cons (ps_for PassesOwn.never rfl (pi_list (pv 1)) (pg_name (i := 4) sc_top_chances.nd rfl (Or.inl rfl)) (pss_one (ps_expr (pe_bm PySem.F.plainAttrs_list PySem.F.slot_list_append PySem.F.type_list_append mt_append (pv 3) (pa_cons (pe_cl C_plus (hr.mono (by decide)) hgd (by rfl) (pa_cons (pe_ix (r := rIxL K) ix_list (pv 3) (pe_un un_neg pe_int) (fun _ _ => rfl)) (pa_cons (pv 4) pa_nil))) pa_nil))))) (pss_one (ps_ret (pe_callTy (r := rTupOf K) call_tupleF (by rfl) B.tuple_ PyProof.Rows.boot_tuple (pa_cons (pe_lc (own := [("height", 5)]) (g := _) (tt := tYes) rfl sc_top_chances.nd (pi_list (pv 3)) (blkOk_by (N := N_top_chances) (sc := defScope s_top_chances) (by decide +kernel)) (fun _ _ _ _ _ => (pg_name (i := 5) sc_top_chances.nd rfl (by first | exact Or.inl rfl | exact Or.inr rfl))) (fun _ _ _ _ _ => pts_nil) (fun _ _ _ _ _ => (pe_cl C_over (hr.mono (by decide)) hgd (by rfl) (pa_cons (pv 5) (pa_cons (pe_ix (r := rIxL K) ix_list (pv 3) (pe_un un_neg pe_int) (fun _ _ => rfl)) pa_nil))))) pa_nil))))))))), fun vs Q => fn_pure (N := N_top_chances) (fun ds d h => ?_) (fun B S ds d h D hR hN => ?_) vs H Q E0⟩), hm, F.kp, F.binds fun _ _ _ _ _ _ us hl => match us, hl with | [_], _ => rfl⟩
  · obtain ⟨walk, rfl, h0, rfl⟩ := h; rfl
  · obtain ⟨walk, rfl, h0, rfl⟩ := h; simp
  · obtain ⟨walk, rfl, h0, rfl⟩ := h
    have hw2 := h0.1.2
    show Ss _ _ [.da ((eT eQ) walk), .no, .no, .no, .no, .no] _ _
    refine s_seq (s_drop (ed_call (ds := [((eT eQ) walk)]) (ea_cons (ed_var rfl) ea_nil) ⟨walk, rfl, by exact h0, rfl⟩) ?_)
    refine s_seq (s_asgM (ds := ([(1 : Rat)]).map eQ) (el_lst (ds := [(1 : Rat)].map eQ) (ea_cons (ed_is (d1 := eQ (1 : Rat)) (ed_tup (ds := [PyData.int (1 : Int), PyData.int (1 : Int)]) (ea_cons ed_int (ea_cons ed_int ea_nil))) (by rfl)) ea_nil)) (fun p_gaps1 => s_le (ρ1 := [.da ((eT eQ) walk), .mu true p_gaps1 (.lst ([(1 : Rat)].map eQ)), .no, .no, .no, .no]) (le_rfl rfl) ?_))
    refine s_seq (s_forX (walk) (fun x => Itm.hard (eQ x)) (ei_tupX (ed_var rfl)) (fun i0 => [.da ((eT eQ) walk), .mu true p_gaps1 (.lst (((List.range (i0 + 1)).map (gapF walk)).map eQ)), .no, .no, .no, .no]) (le_same (le_mu (congrArg MO.lst (by rfl)) (le_no (le_no (le_no (le_no le_nil)))))) (fun T0 hT0 i0 x0 hx0 => ⟨_, [2], (eg_name (by simp)), ?_⟩) ?_)
    · show Ss _ _ [.da ((eT eQ) walk), .mu true p_gaps1 (.lst (((List.range (i0 + 1)).map (gapF walk)).map eQ)), .da (eQ x0), .no, .no, .no] _ _
      have hi0 := (List.getElem?_eq_some_iff.mp hx0).1
      have hs := h0.2 _ (List.mem_of_getElem? hx0)
      refine (s_append (ed_call (ds := [(eQ (ixG ((List.range (i0 + 1)).map (gapF walk)) (-1))), (eQ (((1 - (x0))) / (x0)))]) (ea_cons (ed_ixMX (f := eQ) (xs := ((List.range (i0 + 1)).map (gapF walk))) (ed_neg ed_int) rfl ⟨_, _, rfl⟩ (by first | exact inb_rng _ _ | (rw [List.length_map, List.length_range]; exact inb_rng _ _))) (ea_cons (ed_call (ds := [(eQ (1 - (x0))), (eQ x0)]) (ea_cons (ed_call (ds := [(eQ x0)]) (ea_cons (ed_var rfl) ea_nil) ⟨x0, rfl, by exact st_qk hs, rfl⟩) (ea_cons (ed_var rfl) ea_nil)) ⟨(1 - (x0)), x0, rfl, by exact (rt_qk hs).qb (by decide), by exact (st_qk hs).qb (by decide), by exact pos_ne hs.1.1, rfl⟩) ea_nil)) ⟨(ixG ((List.range (i0 + 1)).map (gapF walk)) (-1)), (((1 - (x0))) / (x0)), rfl, by rw [last_rng]; exact (gap_qk h0 (by omega)).qb (by decide), by exact (rtd_qk hs).qb (by decide), rfl⟩) ⟨_, _, rfl⟩ rfl (by simp; omega) (s_le (ρ1 := [.da ((eT eQ) walk), .mu true p_gaps1 (.lst ((((List.range (i0 + 1)).map (gapF walk)) ++ [(((ixG ((List.range (i0 + 1)).map (gapF walk)) (-1))) * ((((1 - (x0))) / (x0))))]).map eQ)), .da (eQ x0), .no, .no, .no]) (le_same (le_mu (congrArg MO.lst (by simp)) (le_same (le_same (le_same (le_same le_nil)))))) ?_))
      exact s_end (le_same (le_mu (congrArg MO.lst (by exact congrArg (List.map eQ) (gap_step hx0))) (le_no (le_no (le_no (le_no le_nil))))))
    refine s_seq (s_asgM (ds := ([(0 : Rat)]).map eQ) (el_lst (ds := [(0 : Rat)].map eQ) (ea_cons (ed_is (d1 := eQ (0 : Rat)) (ed_tup (ds := [PyData.int (0 : Int), PyData.int (1 : Int)]) (ea_cons ed_int (ea_cons ed_int ea_nil))) (by rfl)) ea_nil)) (fun p_heights2 => s_le (ρ1 := [.da ((eT eQ) walk), .mu true p_gaps1 (.lst (((List.range ((walk).length + 1)).map (gapF walk)).map eQ)), .no, .mu true p_heights2 (.lst ([(0 : Rat)].map eQ)), .no, .no]) (le_rfl rfl) ?_))
    refine s_le (ρ1 := [.da ((eT eQ) walk), .da ((eL eQ) ((List.range ((walk).length + 1)).map (gapF walk))), .no, .mu true p_heights2 (.lst ([(0 : Rat)].map eQ)), .no, .no]) (le_same (le_frz (le_no (le_same (le_no (le_no le_nil)))))) ?_
    refine s_seq (s_forX (((List.range ((walk).length + 1)).map (gapF walk))) (fun x => Itm.hard (eQ x)) (ei_listX (ed_var rfl)) (fun i1 => [.da ((eT eQ) walk), .da ((eL eQ) ((List.range ((walk).length + 1)).map (gapF walk))), .no, .mu true p_heights2 (.lst (((List.range (i1 + 1)).map (hgtF walk)).map eQ)), .no, .no]) (le_same (le_same (le_no (le_mu (congrArg MO.lst (by rfl)) (le_no (le_no le_nil)))))) (fun T1 hT1 i1 x1 hx1 => ⟨_, [4], (eg_name (by simp)), ?_⟩) ?_)
    · show Ss _ _ [.da ((eT eQ) walk), .da ((eL eQ) ((List.range ((walk).length + 1)).map (gapF walk))), .no, .mu true p_heights2 (.lst (((List.range (i1 + 1)).map (hgtF walk)).map eQ)), .da (eQ x1), .no] _ _
      have hi1 := rngM_get hx1
      refine (s_append (ed_call (ds := [(eQ (ixG ((List.range (i1 + 1)).map (hgtF walk)) (-1))), (eQ x1)]) (ea_cons (ed_ixMX (f := eQ) (xs := ((List.range (i1 + 1)).map (hgtF walk))) (ed_neg ed_int) rfl ⟨_, _, rfl⟩ (by first | exact inb_rng _ _ | (rw [List.length_map, List.length_range]; exact inb_rng _ _))) (ea_cons (ed_var rfl) ea_nil)) ⟨(ixG ((List.range (i1 + 1)).map (hgtF walk)) (-1)), x1, rfl, by rw [last_rng]; exact (hgt_qk h0 (by omega)).qb (by decide), by rw [hi1.2]; exact (gap_qk h0 (by omega)).qb (by decide), rfl⟩) ⟨_, _, rfl⟩ rfl (by simp; omega) (s_le (ρ1 := [.da ((eT eQ) walk), .da ((eL eQ) ((List.range ((walk).length + 1)).map (gapF walk))), .no, .mu true p_heights2 (.lst ((((List.range (i1 + 1)).map (hgtF walk)) ++ [(((ixG ((List.range (i1 + 1)).map (hgtF walk)) (-1))) + (x1))]).map eQ)), .da (eQ x1), .no]) (le_same (le_same (le_same (le_mu (congrArg MO.lst (by simp)) (le_same (le_same le_nil)))))) ?_))
      exact s_end (le_same (le_same (le_no (le_mu (congrArg MO.lst (by exact congrArg (List.map eQ) (hgt_step hx1))) (le_no (le_no le_nil))))))
    refine s_le (ρ1 := [.da ((eT eQ) walk), .da ((eL eQ) ((List.range ((walk).length + 1)).map (gapF walk))), .no, .da ((eL eQ) ((List.range ((((List.range ((walk).length + 1)).map (gapF walk))).length + 1)).map (hgtF walk))), .no, .no]) (le_same (le_same (le_no (le_frz (le_no (le_no le_nil)))))) ?_
    exact s_ret (ed_is (ed_tupleL (ed_L (el_lcAX (xs := ((List.range ((((List.range ((walk).length + 1)).map (gapF walk))).length + 1)).map (hgtF walk))) (ea := fun x => Itm.hard (eQ x)) (enc := eQ) (fb := fun (x3 : Rat) => ((x3) / ((ixG ((List.range ((((List.range ((walk).length + 1)).map (gapF walk))).length + 1)).map (hgtF walk)) (-1))))) (ei_listX (ed_var rfl)) (by simp; omega) (by simp) (fun _ _ x3 hx3 => ⟨_, rfl, (eg_name (by simp)), (ed_call (ds := [(eQ x3), (eQ (ixG ((List.range ((((List.range ((walk).length + 1)).map (gapF walk))).length + 1)).map (hgtF walk)) (-1)))]) (ea_cons (ed_var rfl) (ea_cons (ed_ixLX (f := eQ) (l := ((List.range ((((List.range ((walk).length + 1)).map (gapF walk))).length + 1)).map (hgtF walk))) (ed_var rfl) (ed_neg ed_int) (by first | exact inb_rng _ _ | (rw [List.length_map, List.length_range]; exact inb_rng _ _))) ea_nil)) ⟨x3, (ixG ((List.range ((((List.range ((walk).length + 1)).map (gapF walk))).length + 1)).map (hgtF walk)) (-1)), rfl, by exact (hgts_qk h0 (by assumption)).qb (by decide), by rw [hgt_last]; exact (hgt_qk h0 (Nat.le_refl _)).qb (by decide), by rw [hgt_last]; exact hgt_ne h0 _, rfl⟩)⟩)))) (by exact top_ret _ : ((eT eQ) ((((List.range ((((List.range ((walk).length + 1)).map (gapF walk))).length + 1)).map (hgtF walk))).map fun (x3 : Rat) => ((x3) / ((ixG ((List.range ((((List.range ((walk).length + 1)).map (gapF walk))).length + 1)).map (hgtF walk)) (-1)))))) = ((eT eQ) (topsF walk)))) hR

/-! ### mean_of -/
abbrev s_mean_of : Stmt := topS 25
abbrev N_mean_of : List Str := ["step", "low", "high"]
theorem sc_mean_of : FnScope N_mean_of ["step", "low", "high"] (defScope s_mean_of) := ⟨rfl, rfl, rfl, by decide +kernel, rfl, by decide +kernel, by decide +kernel⟩
def R_mean_of : List PyData → PyData → Prop := fun ds d => ∃ (step : Rat) (low : Rat) (high : Rat), ds = [(eQ step), (eQ low), (eQ high)] ∧ (SpOk step) ∧ (Qk 700 low) ∧ (Qk 700 high) ∧ d = (eQ (mixF step low high))
set_option maxHeartbeats 4000000 in
theorem ok_mean_of {P : Program} {w : World} {K : PySem.W.Frag} {mg : Str → Option Value} {base : Heap} (B : Gb K mg) (F : Fd K mg "mean_of" s_mean_of) (C_down_of : Cl P w K mg base 4 "down_of" ["step"] (SpP K R_down_of)) (C_plus : Cl P w K mg base 3 "plus" ["first", "second"] (SpP K R_plus)) (C_times : Cl P w K mg base 3 "times" ["first", "second"] (SpP K R_times)) : Cl P w K mg base 5 "mean_of" ["step", "low", "high"] (SpP K R_mean_of) := by
  have BG := B
  obtain ⟨f, fd, F, hm⟩ := F.ex
  refine ⟨f, fd, fnG_of (k := 4) F sc_mean_of (spP_len fun ds d h => ?_) (fun cdv A outer s H hr hgd => ⟨_, (pss_one (ps_ret (pe_cl C_plus (hr.mono (by decide)) hgd (by rfl) (pa_cons (pe_cl C_times (hr.mono (by decide)) hgd (by rfl) (pa_cons (pv 0) (pa_cons (pv 2) pa_nil))) (pa_cons (pe_cl C_times (hr.mono (by decide)) hgd (by rfl) (pa_cons (pe_cl C_down_of (hr.mono (by decide)) hgd (by rfl) (pa_cons (pv 0) pa_nil)) (pa_cons (pv 1) pa_nil))) pa_nil))))), fun vs Q => fn_pure (N := N_mean_of) (fun ds d h => ?_) (fun B S ds d h D hR hN => ?_) vs H Q E0⟩), hm, F.kp, F.binds fun _ _ _ _ _ _ us hl => match us, hl with | [_, _, _], _ => rfl⟩
  · obtain ⟨step, low, high, rfl, h0, h1, h2, rfl⟩ := h; rfl
  · obtain ⟨step, low, high, rfl, h0, h1, h2, rfl⟩ := h; simp
  · obtain ⟨step, low, high, rfl, h0, h1, h2, rfl⟩ := h
    show Ss _ _ [.da (eQ step), .da (eQ low), .da (eQ high)] _ _
    exact s_ret (ed_is (ed_call (ds := [(eQ ((step) * (high))), (eQ (((1 - (step))) * (low)))]) (ea_cons (ed_call (ds := [(eQ step), (eQ high)]) (ea_cons (ed_var rfl) (ea_cons (ed_var rfl) ea_nil)) ⟨step, high, rfl, by exact (st_qk h0).qb (by decide), by exact h2.qb (by decide), rfl⟩) (ea_cons (ed_call (ds := [(eQ (1 - (step))), (eQ low)]) (ea_cons (ed_call (ds := [(eQ step)]) (ea_cons (ed_var rfl) ea_nil) ⟨step, rfl, by exact st_qk h0, rfl⟩) (ea_cons (ed_var rfl) ea_nil)) ⟨(1 - (step)), low, rfl, by exact (rt_qk h0).qb (by decide), by exact h1.qb (by decide), rfl⟩) ea_nil)) ⟨((step) * (high)), (((1 - (step))) * (low)), rfl, by exact (Qk_mul (st_qk h0) h2).qb (by decide), by exact (Qk_mul (rt_qk h0) h1).qb (by decide), rfl⟩) (by rfl : (eQ ((((step) * (high))) + ((((1 - (step))) * (low))))) = (eQ (mixF step low high)))) hR

/-! ### check_row -/
abbrev s_check_row : Stmt := topS 24
abbrev N_check_row : List Str := ["walk", "value", "part"]
theorem sc_check_row : FnScope N_check_row ["walk", "value"] (defScope s_check_row) := ⟨rfl, rfl, rfl, by decide +kernel, rfl, by decide +kernel, by decide +kernel⟩
def R_check_row : List PyData → PyData → Prop := fun ds d => ∃ (walk : (List Rat)) (value : (List Rat)), ds = [((eT eQ) walk), ((eT eQ) value)] ∧ (walk.length ≤ 30 ∧ value.length = walk.length + 2) ∧ d = PyData.none
set_option maxHeartbeats 4000000 in
theorem ok_check_row {P : Program} {w : World} {K : PySem.W.Frag} {mg : Str → Option Value} {base : Heap} (B : Gb K mg) (F : Fd K mg "check_row" s_check_row) (C_is_quotient : Cl P w K mg base 2 "is_quotient" ["value"] (SpP K R_is_quotient)) : Cl P w K mg base 3 "check_row" ["walk", "value"] (SpP K R_check_row) := by
  have BG := B
  obtain ⟨f, fd, F, hm⟩ := F.ex
  refine ⟨f, fd, fnG_of (k := 2) F sc_check_row (spP_len fun ds d h => ?_) (fun cdv A outer s H hr hgd => ⟨_, (pss_one (ps_if (PW.pt (pw_or (pt_not (pt_truth (pe_callB (r := rIsi K) call_isi (by rfl) B.isinstance_ boot_isinstance (pa_cons (pv 1) (pa_cons (pe_bltn (v := .ty "tuple") (u := .type "tuple") (by rfl) B.tuple_ PyProof.Rows.boot_tuple rfl) pa_nil))) (fun _ => rfl))) (pw_or (pt_cmpR (r := rNeD K) (op_neD hr.units) (pe_callB (r := rLenS K) call_len_seq (by rfl) B.len_ PySem.boot_len (pa_cons (pv 1) pa_nil)) (pe_op op_add (pe_callB (r := rLenS K) call_len_seq (by rfl) B.len_ PySem.boot_len (pa_cons (pv 0) pa_nil)) pe_int) (nomark _)) (pw_or1 (pt_not (pt_truth (pe_callB (r := rAll K) (cr_all rfl) (by rfl) B.all_ (by decide +kernel) (pa_cons (pe_lc (own := [("part", 2)]) (g := _) (tt := tYes) rfl sc_check_row.nd (pi_tup (pv 1)) (blkOk_by (N := N_check_row) (sc := defScope s_check_row) (by decide +kernel)) (fun _ _ _ _ _ => (pg_name (i := 2) sc_check_row.nd rfl (by first | exact Or.inl rfl | exact Or.inr rfl))) (fun _ _ _ _ _ => pts_nil) (fun _ _ _ _ _ => (pe_cl C_is_quotient (hr.mono (by decide)) hgd (by rfl) (pa_cons (pv 2) pa_nil)))) pa_nil)) (fun _ => rfl))))))) pss_never pss_nil)), fun vs Q => fn_pure (N := N_check_row) (fun ds d h => ?_) (fun B S ds d h D hR hN => ?_) vs H Q E0⟩), hm, F.kp, F.binds fun _ _ _ _ _ _ us hl => match us, hl with | [_, _], _ => rfl⟩
  · obtain ⟨walk, value, rfl, h0, rfl⟩ := h; rfl
  · obtain ⟨walk, value, rfl, h0, rfl⟩ := h; simp
  · obtain ⟨walk, value, rfl, h0, rfl⟩ := h
    have hw1 := h0.1
    have hw2 := h0.2
    show Ss _ _ [.da ((eT eQ) walk), .da ((eT eQ) value), .no] _ _
    refine (s_skip (et_or (et_not (et_truB (ed_isi (ed_var rfl) (show kitB "tuple" "tuple" = some true by decide +kernel)))) (fun hb3 => (et_or (et_test (ed_neI (ed_lenTX (ed_var rfl)) (ed_I0 (ed_lenTX (ed_var rfl)) ed_int))) (fun hb2 => (et_not (et_truB (ed_all (ed_L (el_lcAX (xs := value) (ea := fun x => Itm.hard (eQ x)) (enc := PyData.bool) (fb := fun (x1 : Rat) => (true)) (ei_tupX (ed_var rfl)) (by omega) (by simp) (fun _ _ x1 hx1 => ⟨_, rfl, (eg_name (by simp)), (ed_call (ds := [(eQ x1)]) (ea_cons (ed_var rfl) ea_nil) ⟨x1, rfl, rfl⟩)⟩)))))))))) (by rw [all_id (fun _ _ => rfl), h0.2]; simp : ((!true) || ((!decide (((value).length : Int) = (((walk).length : Int) + (2 : Int)))) || (!((((value).map fun (x1 : Rat) => (true))).all id)))) = false) ?_)
    exact hN rfl _ _

/-! ### mean_steps -/
abbrev s_mean_steps : Stmt := topS 26
abbrev N_mean_steps : List Str := ["walk", "slopes", "gaps", "step", "factor", "low", "height", "slope", "gap", "first", "part", "own"]
theorem sc_mean_steps : FnScope N_mean_steps ["walk"] (defScope s_mean_steps) := ⟨rfl, rfl, rfl, by decide +kernel, rfl, by decide +kernel, by decide +kernel⟩
def R_mean_steps : List PyData → PyData → Prop := fun ds d => ∃ (walk : (List Rat)), ds = [((eT eQ) walk)] ∧ (WkOk walk) ∧ d = ((eT eQ) (stepsF walk))
set_option maxHeartbeats 4000000 in
theorem ok_mean_steps {P : Program} {w : World} {K : PySem.W.Frag} {mg : Str → Option Value} {base : Heap} (B : Gb K mg) (F : Fd K mg "mean_steps" s_mean_steps) (C_check_walk : Cl P w K mg base 4 "check_walk" ["walk"] (SpP K R_check_walk)) (C_down_of : Cl P w K mg base 4 "down_of" ["step"] (SpP K R_down_of)) (C_minus : Cl P w K mg base 3 "minus" ["first", "second"] (SpP K R_minus)) (C_over : Cl P w K mg base 3 "over" ["first", "second"] (SpP K R_over)) (C_plus : Cl P w K mg base 3 "plus" ["first", "second"] (SpP K R_plus)) (C_times : Cl P w K mg base 3 "times" ["first", "second"] (SpP K R_times)) : Cl P w K mg base 5 "mean_steps" ["walk"] (SpP K R_mean_steps) := by
  have BG := B
  obtain ⟨f, fd, F, hm⟩ := F.ex
  refine ⟨f, fd, fnG_of (k := 4) F sc_mean_steps (spP_len fun ds d h => ?_) (fun cdv A outer s H hr hgd => ⟨_, (pss_cons (ps_expr (pe_cl C_check_walk (hr.mono (by decide)) hgd (by rfl) (pa_cons (pv 0) pa_nil))) (pss_cons (ps_set (i := 1) sc_mean_steps.nd rfl (Or.inl rfl) (pe_lst (pa_cons (pe_tupF (pa_cons pe_int (pa_cons pe_int pa_nil))) pa_nil))) (pss_cons (ps_set (i := 2) sc_mean_steps.nd rfl (Or.inl rfl) (pe_lst (pa_cons (pe_tupF (pa_cons pe_int (pa_cons pe_int pa_nil))) pa_nil))) (pss_cons (ps_for PassesOwn.never rfl (pi_tup (pv 0)) (pg_name (i := 3) sc_mean_steps.nd rfl (Or.inl rfl)) (pss_cons (ps_set (i := 4) sc_mean_steps.nd rfl (Or.inl rfl) (pe_cl C_over (hr.mono (by decide)) hgd (by rfl) (pa_cons (pe_cl C_down_of (hr.mono (by decide)) hgd (by rfl) (pa_cons (pv 3) pa_nil)) (pa_cons (pv 3) pa_nil)))) (pss_cons (ps_expr (pe_bm PySem.F.plainAttrs_list PySem.F.slot_list_append PySem.F.type_list_append mt_append (pv 1) (pa_cons (pe_cl C_minus (hr.mono (by decide)) hgd (by rfl) (pa_cons (pe_cl C_times (hr.mono (by decide)) hgd (by rfl) (pa_cons (pe_ix (r := rIxL K) ix_list (pv 1) (pe_un un_neg pe_int) (fun _ _ => rfl)) (pa_cons (pv 4) pa_nil))) (pa_cons (pe_cl C_over (hr.mono (by decide)) hgd (by rfl) (pa_cons (pe_tupF (pa_cons pe_int (pa_cons pe_int pa_nil))) (pa_cons (pv 3) pa_nil))) pa_nil))) pa_nil))) (pss_one (ps_expr (pe_bm PySem.F.plainAttrs_list PySem.F.slot_list_append PySem.F.type_list_append mt_append (pv 2) (pa_cons (pe_cl C_times (hr.mono (by decide)) hgd (by rfl) (pa_cons (pe_ix (r := rIxL K) ix_list (pv 2) (pe_un un_neg pe_int) (fun _ _ => rfl)) (pa_cons (pv 4) pa_nil))) pa_nil))))))) (pss_cons (ps_set (i := 5) sc_mean_steps.nd rfl (Or.inl rfl) (pe_lst (pa_cons (pe_tupF (pa_cons pe_int (pa_cons pe_int pa_nil))) pa_nil))) (pss_cons (ps_set (i := 6) sc_mean_steps.nd rfl (Or.inl rfl) (pe_lst (pa_cons (pe_tupF (pa_cons pe_int (pa_cons pe_int pa_nil))) pa_nil))) (pss_cons (ps_for PassesOwn.never rfl (pi_zipA (by rfl) B.zip_ (pa_cons (pv 1) (pa_cons (pv 2) pa_nil))) (pg_tup rfl (pgs_cons (pg_name (i := 7) sc_mean_steps.nd rfl (Or.inl rfl)) (pgs_cons (pg_name (i := 8) sc_mean_steps.nd rfl (Or.inl rfl)) pgs_nil))) (pss_cons (ps_expr (pe_bm PySem.F.plainAttrs_list PySem.F.slot_list_append PySem.F.type_list_append mt_append (pv 5) (pa_cons (pe_cl C_plus (hr.mono (by decide)) hgd (by rfl) (pa_cons (pe_ix (r := rIxL K) ix_list (pv 5) (pe_un un_neg pe_int) (fun _ _ => rfl)) (pa_cons (pv 7) pa_nil))) pa_nil))) (pss_one (ps_expr (pe_bm PySem.F.plainAttrs_list PySem.F.slot_list_append PySem.F.type_list_append mt_append (pv 6) (pa_cons (pe_cl C_plus (hr.mono (by decide)) hgd (by rfl) (pa_cons (pe_ix (r := rIxL K) ix_list (pv 6) (pe_un un_neg pe_int) (fun _ _ => rfl)) (pa_cons (pv 8) pa_nil))) pa_nil)))))) (pss_cons (ps_set (i := 9) sc_mean_steps.nd rfl (Or.inr rfl) (pe_cl C_over (hr.mono (by decide)) hgd (by rfl) (pa_cons (pe_cl C_minus (hr.mono (by decide)) hgd (by rfl) (pa_cons (pe_tupF (pa_cons pe_int (pa_cons pe_int pa_nil))) (pa_cons (pe_ix (r := rIxL K) ix_list (pv 5) (pe_un un_neg pe_int) (fun _ _ => rfl)) pa_nil))) (pa_cons (pe_ix (r := rIxL K) ix_list (pv 6) (pe_un un_neg pe_int) (fun _ _ => rfl)) pa_nil)))) (pss_one (ps_ret (pe_callTy (r := rTupOf K) call_tupleF (by rfl) B.tuple_ PyProof.Rows.boot_tuple (pa_cons (pe_lc (own := [("part", 10), ("own", 11)]) (g := _) (tt := tYes) rfl sc_mean_steps.nd (pi_zipA (by rfl) B.zip_ (pa_cons (pv 5) (pa_cons (pv 6) pa_nil))) (blkOk_by (N := N_mean_steps) (sc := defScope s_mean_steps) (by decide +kernel)) (fun _ _ _ _ _ => (pg_tupB (K := K) (n := 2) rfl rfl (pgs_cons (pg_name (i := 10) sc_mean_steps.nd rfl (by first | exact Or.inl rfl | exact Or.inr rfl)) (pgs_cons (pg_name (i := 11) sc_mean_steps.nd rfl (by first | exact Or.inl rfl | exact Or.inr rfl)) pgs_nil)))) (fun _ _ _ _ _ => pts_nil) (fun _ _ _ _ _ => (pe_cl C_plus (hr.mono (by decide)) hgd (by rfl) (pa_cons (pv 10) (pa_cons (pe_cl C_times (hr.mono (by decide)) hgd (by rfl) (pa_cons (pv 9) (pa_cons (pv 11) pa_nil))) pa_nil))))) pa_nil)))))))))))), fun vs Q => fn_pure (N := N_mean_steps) (fun ds d h => ?_) (fun B S ds d h D hR hN => ?_) vs H Q E0⟩), hm, F.kp, F.binds fun _ _ _ _ _ _ us hl => match us, hl with | [_], _ => rfl⟩
  · obtain ⟨walk, rfl, h0, rfl⟩ := h; rfl
  · obtain ⟨walk, rfl, h0, rfl⟩ := h; simp
  · obtain ⟨walk, rfl, h0, rfl⟩ := h
    have hw2 := h0.1.2
    show Ss _ _ [.da ((eT eQ) walk), .no, .no, .no, .no, .no, .no, .no, .no, .no, .no, .no] _ _
    refine s_seq (s_drop (ed_call (ds := [((eT eQ) walk)]) (ea_cons (ed_var rfl) ea_nil) ⟨walk, rfl, by exact h0, rfl⟩) ?_)
    refine s_seq (s_asgM (ds := ([(0 : Rat)]).map eQ) (el_lst (ds := [(0 : Rat)].map eQ) (ea_cons (ed_is (d1 := eQ (0 : Rat)) (ed_tup (ds := [PyData.int (0 : Int), PyData.int (1 : Int)]) (ea_cons ed_int (ea_cons ed_int ea_nil))) (by rfl)) ea_nil)) (fun p_slopes1 => s_le (ρ1 := [.da ((eT eQ) walk), .mu true p_slopes1 (.lst ([(0 : Rat)].map eQ)), .no, .no, .no, .no, .no, .no, .no, .no, .no, .no]) (le_rfl rfl) ?_))
    refine s_seq (s_asgM (ds := ([(1 : Rat)]).map eQ) (el_lst (ds := [(1 : Rat)].map eQ) (ea_cons (ed_is (d1 := eQ (1 : Rat)) (ed_tup (ds := [PyData.int (1 : Int), PyData.int (1 : Int)]) (ea_cons ed_int (ea_cons ed_int ea_nil))) (by rfl)) ea_nil)) (fun p_gaps2 => s_le (ρ1 := [.da ((eT eQ) walk), .mu true p_slopes1 (.lst ([(0 : Rat)].map eQ)), .mu true p_gaps2 (.lst ([(1 : Rat)].map eQ)), .no, .no, .no, .no, .no, .no, .no, .no, .no]) (le_rfl rfl) ?_))
    refine s_seq (s_forX (walk) (fun x => Itm.hard (eQ x)) (ei_tupX (ed_var rfl)) (fun i0 => [.da ((eT eQ) walk), .mu true p_slopes1 (.lst (((List.range (i0 + 1)).map (sloF walk)).map eQ)), .mu true p_gaps2 (.lst (((List.range (i0 + 1)).map (gapF walk)).map eQ)), .no, .no, .no, .no, .no, .no, .no, .no, .no]) (le_same (le_mu (congrArg MO.lst (by rfl)) (le_mu (congrArg MO.lst (by rfl)) (le_no (le_no (le_no (le_no (le_no (le_no (le_no (le_no (le_no le_nil)))))))))))) (fun T0 hT0 i0 x0 hx0 => ⟨_, [3], (eg_name (by simp)), ?_⟩) ?_)
    · show Ss _ _ [.da ((eT eQ) walk), .mu true p_slopes1 (.lst (((List.range (i0 + 1)).map (sloF walk)).map eQ)), .mu true p_gaps2 (.lst (((List.range (i0 + 1)).map (gapF walk)).map eQ)), .da (eQ x0), .no, .no, .no, .no, .no, .no, .no, .no] _ _
      have hi0 := (List.getElem?_eq_some_iff.mp hx0).1
      have hs := h0.2 _ (List.mem_of_getElem? hx0)
      refine s_seq (s_asg (ed_call (ds := [(eQ (1 - (x0))), (eQ x0)]) (ea_cons (ed_call (ds := [(eQ x0)]) (ea_cons (ed_var rfl) ea_nil) ⟨x0, rfl, by exact st_qk hs, rfl⟩) (ea_cons (ed_var rfl) ea_nil)) ⟨(1 - (x0)), x0, rfl, by exact (rt_qk hs).qb (by decide), by exact (st_qk hs).qb (by decide), by exact pos_ne hs.1.1, rfl⟩) (s_le (ρ1 := [.da ((eT eQ) walk), .mu true p_slopes1 (.lst (((List.range (i0 + 1)).map (sloF walk)).map eQ)), .mu true p_gaps2 (.lst (((List.range (i0 + 1)).map (gapF walk)).map eQ)), .da (eQ x0), .da (eQ (((1 - (x0))) / (x0))), .no, .no, .no, .no, .no, .no, .no]) (le_rfl rfl) ?_))
      refine s_seq (s_append (ed_call (ds := [(eQ (((ixG ((List.range (i0 + 1)).map (sloF walk)) (-1))) * ((((1 - (x0))) / (x0))))), (eQ (((1 : Rat)) / (x0)))]) (ea_cons (ed_call (ds := [(eQ (ixG ((List.range (i0 + 1)).map (sloF walk)) (-1))), (eQ (((1 - (x0))) / (x0)))]) (ea_cons (ed_ixMX (f := eQ) (xs := ((List.range (i0 + 1)).map (sloF walk))) (ed_neg ed_int) rfl ⟨_, _, rfl⟩ (by first | exact inb_rng _ _ | (rw [List.length_map, List.length_range]; exact inb_rng _ _))) (ea_cons (ed_var rfl) ea_nil)) ⟨(ixG ((List.range (i0 + 1)).map (sloF walk)) (-1)), (((1 - (x0))) / (x0)), rfl, by rw [last_rng]; exact (slo_qk h0 (by omega)).qb (by decide), by exact (rtd_qk hs).qb (by decide), rfl⟩) (ea_cons (ed_call (ds := [(eQ (1 : Rat)), (eQ x0)]) (ea_cons (ed_is (d1 := eQ (1 : Rat)) (ed_tup (ds := [PyData.int (1 : Int), PyData.int (1 : Int)]) (ea_cons ed_int (ea_cons ed_int ea_nil))) (by rfl)) (ea_cons (ed_var rfl) ea_nil)) ⟨(1 : Rat), x0, rfl, by exact (Qk_one 0).qb (by decide), by exact (st_qk hs).qb (by decide), by exact pos_ne hs.1.1, rfl⟩) ea_nil)) ⟨(((ixG ((List.range (i0 + 1)).map (sloF walk)) (-1))) * ((((1 - (x0))) / (x0)))), (((1 : Rat)) / (x0)), rfl, by rw [last_rng]; exact (Qk_mul (slo_qk h0 (by omega)) (rtd_qk hs)).qb (by decide), by exact (Qk_div (Qk_one 0) (st_qk hs) hs.1.1).qb (by decide), rfl⟩) ⟨_, _, rfl⟩ rfl (by simp; omega) (s_le (ρ1 := [.da ((eT eQ) walk), .mu true p_slopes1 (.lst ((((List.range (i0 + 1)).map (sloF walk)) ++ [(((((ixG ((List.range (i0 + 1)).map (sloF walk)) (-1))) * ((((1 - (x0))) / (x0))))) - ((((1 : Rat)) / (x0))))]).map eQ)), .mu true p_gaps2 (.lst (((List.range (i0 + 1)).map (gapF walk)).map eQ)), .da (eQ x0), .da (eQ (((1 - (x0))) / (x0))), .no, .no, .no, .no, .no, .no, .no]) (le_same (le_mu (congrArg MO.lst (by simp)) (le_same (le_same (le_same (le_same (le_same (le_same (le_same (le_same (le_same (le_same le_nil)))))))))))) ?_))
      refine (s_append (ed_call (ds := [(eQ (ixG ((List.range (i0 + 1)).map (gapF walk)) (-1))), (eQ (((1 - (x0))) / (x0)))]) (ea_cons (ed_ixMX (f := eQ) (xs := ((List.range (i0 + 1)).map (gapF walk))) (ed_neg ed_int) rfl ⟨_, _, rfl⟩ (by first | exact inb_rng _ _ | (rw [List.length_map, List.length_range]; exact inb_rng _ _))) (ea_cons (ed_var rfl) ea_nil)) ⟨(ixG ((List.range (i0 + 1)).map (gapF walk)) (-1)), (((1 - (x0))) / (x0)), rfl, by rw [last_rng]; exact (gap_qk h0 (by omega)).qb (by decide), by exact (rtd_qk hs).qb (by decide), rfl⟩) ⟨_, _, rfl⟩ rfl (by simp; omega) (s_le (ρ1 := [.da ((eT eQ) walk), .mu true p_slopes1 (.lst ((((List.range (i0 + 1)).map (sloF walk)) ++ [(((((ixG ((List.range (i0 + 1)).map (sloF walk)) (-1))) * ((((1 - (x0))) / (x0))))) - ((((1 : Rat)) / (x0))))]).map eQ)), .mu true p_gaps2 (.lst ((((List.range (i0 + 1)).map (gapF walk)) ++ [(((ixG ((List.range (i0 + 1)).map (gapF walk)) (-1))) * ((((1 - (x0))) / (x0))))]).map eQ)), .da (eQ x0), .da (eQ (((1 - (x0))) / (x0))), .no, .no, .no, .no, .no, .no, .no]) (le_same (le_same (le_mu (congrArg MO.lst (by simp)) (le_same (le_same (le_same (le_same (le_same (le_same (le_same (le_same (le_same le_nil)))))))))))) ?_))
      exact s_end (le_same (le_mu (congrArg MO.lst (by exact congrArg (List.map eQ) (slo_step hx0))) (le_mu (congrArg MO.lst (by exact congrArg (List.map eQ) (gap_step hx0))) (le_no (le_no (le_no (le_no (le_no (le_no (le_no (le_no (le_no le_nil))))))))))))
    refine s_seq (s_asgM (ds := ([(0 : Rat)]).map eQ) (el_lst (ds := [(0 : Rat)].map eQ) (ea_cons (ed_is (d1 := eQ (0 : Rat)) (ed_tup (ds := [PyData.int (0 : Int), PyData.int (1 : Int)]) (ea_cons ed_int (ea_cons ed_int ea_nil))) (by rfl)) ea_nil)) (fun p_low3 => s_le (ρ1 := [.da ((eT eQ) walk), .mu true p_slopes1 (.lst (((List.range ((walk).length + 1)).map (sloF walk)).map eQ)), .mu true p_gaps2 (.lst (((List.range ((walk).length + 1)).map (gapF walk)).map eQ)), .no, .no, .mu true p_low3 (.lst ([(0 : Rat)].map eQ)), .no, .no, .no, .no, .no, .no]) (le_rfl rfl) ?_))
    refine s_seq (s_asgM (ds := ([(0 : Rat)]).map eQ) (el_lst (ds := [(0 : Rat)].map eQ) (ea_cons (ed_is (d1 := eQ (0 : Rat)) (ed_tup (ds := [PyData.int (0 : Int), PyData.int (1 : Int)]) (ea_cons ed_int (ea_cons ed_int ea_nil))) (by rfl)) ea_nil)) (fun p_height4 => s_le (ρ1 := [.da ((eT eQ) walk), .mu true p_slopes1 (.lst (((List.range ((walk).length + 1)).map (sloF walk)).map eQ)), .mu true p_gaps2 (.lst (((List.range ((walk).length + 1)).map (gapF walk)).map eQ)), .no, .no, .mu true p_low3 (.lst ([(0 : Rat)].map eQ)), .mu true p_height4 (.lst ([(0 : Rat)].map eQ)), .no, .no, .no, .no, .no]) (le_rfl rfl) ?_))
    refine s_le (ρ1 := [.da ((eT eQ) walk), .da ((eL eQ) ((List.range ((walk).length + 1)).map (sloF walk))), .da ((eL eQ) ((List.range ((walk).length + 1)).map (gapF walk))), .no, .no, .mu true p_low3 (.lst ([(0 : Rat)].map eQ)), .mu true p_height4 (.lst ([(0 : Rat)].map eQ)), .no, .no, .no, .no, .no]) (le_same (le_frz (le_frz (le_no (le_no (le_same (le_same (le_no (le_no (le_no (le_no (le_no le_nil)))))))))))) ?_
    refine s_seq (s_forX (((((List.range ((walk).length + 1)).map (sloF walk))).zip ((List.range ((walk).length + 1)).map (gapF walk)))) (fun p => Itm.soft [eQ p.1, eQ p.2]) (ei_zipLX (ed_var rfl) (ed_var rfl)) (fun i1 => [.da ((eT eQ) walk), .da ((eL eQ) ((List.range ((walk).length + 1)).map (sloF walk))), .da ((eL eQ) ((List.range ((walk).length + 1)).map (gapF walk))), .no, .no, .mu true p_low3 (.lst (((List.range (i1 + 1)).map (lowF walk)).map eQ)), .mu true p_height4 (.lst (((List.range (i1 + 1)).map (hgtF walk)).map eQ)), .no, .no, .no, .no, .no]) (le_same (le_same (le_same (le_no (le_no (le_mu (congrArg MO.lst (by rfl)) (le_mu (congrArg MO.lst (by rfl)) (le_no (le_no (le_no (le_no (le_no le_nil)))))))))))) (fun T1 hT1 i1 x1 hx1 => ⟨_, [7, 8], (eg_soft (egs_cons (eg_name (by simp)) (egs_cons (eg_name (by simp)) egs_nil))), ?_⟩) ?_)
    · show Ss _ _ [.da ((eT eQ) walk), .da ((eL eQ) ((List.range ((walk).length + 1)).map (sloF walk))), .da ((eL eQ) ((List.range ((walk).length + 1)).map (gapF walk))), .no, .no, .mu true p_low3 (.lst (((List.range (i1 + 1)).map (lowF walk)).map eQ)), .mu true p_height4 (.lst (((List.range (i1 + 1)).map (hgtF walk)).map eQ)), .da (eQ (x1).1), .da (eQ (x1).2), .no, .no, .no] _ _
      have hi1 := zipM_get hx1
      refine s_seq (s_append (ed_call (ds := [(eQ (ixG ((List.range (i1 + 1)).map (lowF walk)) (-1))), (eQ (x1).1)]) (ea_cons (ed_ixMX (f := eQ) (xs := ((List.range (i1 + 1)).map (lowF walk))) (ed_neg ed_int) rfl ⟨_, _, rfl⟩ (by first | exact inb_rng _ _ | (rw [List.length_map, List.length_range]; exact inb_rng _ _))) (ea_cons (ed_var rfl) ea_nil)) ⟨(ixG ((List.range (i1 + 1)).map (lowF walk)) (-1)), (x1).1, rfl, by rw [last_rng]; exact (low_qk h0 (by omega)).qb (by decide), by rw [hi1.2.1]; exact (slo_qk h0 (by omega)).qb (by decide), rfl⟩) ⟨_, _, rfl⟩ rfl (by simp; omega) (s_le (ρ1 := [.da ((eT eQ) walk), .da ((eL eQ) ((List.range ((walk).length + 1)).map (sloF walk))), .da ((eL eQ) ((List.range ((walk).length + 1)).map (gapF walk))), .no, .no, .mu true p_low3 (.lst ((((List.range (i1 + 1)).map (lowF walk)) ++ [(((ixG ((List.range (i1 + 1)).map (lowF walk)) (-1))) + ((x1).1))]).map eQ)), .mu true p_height4 (.lst (((List.range (i1 + 1)).map (hgtF walk)).map eQ)), .da (eQ (x1).1), .da (eQ (x1).2), .no, .no, .no]) (le_same (le_same (le_same (le_same (le_same (le_mu (congrArg MO.lst (by simp)) (le_same (le_same (le_same (le_same (le_same (le_same le_nil)))))))))))) ?_))
      refine (s_append (ed_call (ds := [(eQ (ixG ((List.range (i1 + 1)).map (hgtF walk)) (-1))), (eQ (x1).2)]) (ea_cons (ed_ixMX (f := eQ) (xs := ((List.range (i1 + 1)).map (hgtF walk))) (ed_neg ed_int) rfl ⟨_, _, rfl⟩ (by first | exact inb_rng _ _ | (rw [List.length_map, List.length_range]; exact inb_rng _ _))) (ea_cons (ed_var rfl) ea_nil)) ⟨(ixG ((List.range (i1 + 1)).map (hgtF walk)) (-1)), (x1).2, rfl, by rw [last_rng]; exact (hgt_qk h0 (by omega)).qb (by decide), by rw [hi1.2.2]; exact (gap_qk h0 (by omega)).qb (by decide), rfl⟩) ⟨_, _, rfl⟩ rfl (by simp; omega) (s_le (ρ1 := [.da ((eT eQ) walk), .da ((eL eQ) ((List.range ((walk).length + 1)).map (sloF walk))), .da ((eL eQ) ((List.range ((walk).length + 1)).map (gapF walk))), .no, .no, .mu true p_low3 (.lst ((((List.range (i1 + 1)).map (lowF walk)) ++ [(((ixG ((List.range (i1 + 1)).map (lowF walk)) (-1))) + ((x1).1))]).map eQ)), .mu true p_height4 (.lst ((((List.range (i1 + 1)).map (hgtF walk)) ++ [(((ixG ((List.range (i1 + 1)).map (hgtF walk)) (-1))) + ((x1).2))]).map eQ)), .da (eQ (x1).1), .da (eQ (x1).2), .no, .no, .no]) (le_same (le_same (le_same (le_same (le_same (le_same (le_mu (congrArg MO.lst (by simp)) (le_same (le_same (le_same (le_same (le_same le_nil)))))))))))) ?_))
      exact s_end (le_same (le_same (le_same (le_no (le_no (le_mu (congrArg MO.lst (by exact congrArg (List.map eQ) (low_step hx1))) (le_mu (congrArg MO.lst (by exact congrArg (List.map eQ) (hgt_step2 hx1))) (le_no (le_no (le_no (le_no (le_no le_nil))))))))))))
    refine s_seq (s_asg (ed_call (ds := [(eQ (((0 : Rat)) - ((ixG ((List.range ((((((List.range ((walk).length + 1)).map (sloF walk))).zip ((List.range ((walk).length + 1)).map (gapF walk)))).length + 1)).map (lowF walk)) (-1))))), (eQ (ixG ((List.range ((((((List.range ((walk).length + 1)).map (sloF walk))).zip ((List.range ((walk).length + 1)).map (gapF walk)))).length + 1)).map (hgtF walk)) (-1)))]) (ea_cons (ed_call (ds := [(eQ (0 : Rat)), (eQ (ixG ((List.range ((((((List.range ((walk).length + 1)).map (sloF walk))).zip ((List.range ((walk).length + 1)).map (gapF walk)))).length + 1)).map (lowF walk)) (-1)))]) (ea_cons (ed_is (d1 := eQ (0 : Rat)) (ed_tup (ds := [PyData.int (0 : Int), PyData.int (1 : Int)]) (ea_cons ed_int (ea_cons ed_int ea_nil))) (by rfl)) (ea_cons (ed_ixMX (f := eQ) (xs := ((List.range ((((((List.range ((walk).length + 1)).map (sloF walk))).zip ((List.range ((walk).length + 1)).map (gapF walk)))).length + 1)).map (lowF walk))) (ed_neg ed_int) rfl ⟨_, _, rfl⟩ (by first | exact inb_rng _ _ | (rw [List.length_map, List.length_range]; exact inb_rng _ _))) ea_nil)) ⟨(0 : Rat), (ixG ((List.range ((((((List.range ((walk).length + 1)).map (sloF walk))).zip ((List.range ((walk).length + 1)).map (gapF walk)))).length + 1)).map (lowF walk)) (-1)), rfl, by exact (Qk_zero 0).qb (by decide), by rw [last_rng, zlen]; exact (low_qk h0 (Nat.le_refl _)).qb (by decide), rfl⟩) (ea_cons (ed_ixMX (f := eQ) (xs := ((List.range ((((((List.range ((walk).length + 1)).map (sloF walk))).zip ((List.range ((walk).length + 1)).map (gapF walk)))).length + 1)).map (hgtF walk))) (ed_neg ed_int) rfl ⟨_, _, rfl⟩ (by first | exact inb_rng _ _ | (rw [List.length_map, List.length_range]; exact inb_rng _ _))) ea_nil)) ⟨(((0 : Rat)) - ((ixG ((List.range ((((((List.range ((walk).length + 1)).map (sloF walk))).zip ((List.range ((walk).length + 1)).map (gapF walk)))).length + 1)).map (lowF walk)) (-1)))), (ixG ((List.range ((((((List.range ((walk).length + 1)).map (sloF walk))).zip ((List.range ((walk).length + 1)).map (gapF walk)))).length + 1)).map (hgtF walk)) (-1)), rfl, by rw [last_rng, zlen]; exact (Qk_sub (Qk_zero 0) (low_qk h0 (Nat.le_refl _))).qb (by decide), by rw [last_rng, zlen]; exact (hgt_qk h0 (Nat.le_refl _)).qb (by decide), by rw [last_rng, zlen]; exact hgt_ne h0 _, rfl⟩) (s_le (ρ1 := [.da ((eT eQ) walk), .da ((eL eQ) ((List.range ((walk).length + 1)).map (sloF walk))), .da ((eL eQ) ((List.range ((walk).length + 1)).map (gapF walk))), .no, .no, .mu true p_low3 (.lst (((List.range ((((((List.range ((walk).length + 1)).map (sloF walk))).zip ((List.range ((walk).length + 1)).map (gapF walk)))).length + 1)).map (lowF walk)).map eQ)), .mu true p_height4 (.lst (((List.range ((((((List.range ((walk).length + 1)).map (sloF walk))).zip ((List.range ((walk).length + 1)).map (gapF walk)))).length + 1)).map (hgtF walk)).map eQ)), .no, .no, .da (eQ (((((0 : Rat)) - ((ixG ((List.range ((((((List.range ((walk).length + 1)).map (sloF walk))).zip ((List.range ((walk).length + 1)).map (gapF walk)))).length + 1)).map (lowF walk)) (-1))))) / ((ixG ((List.range ((((((List.range ((walk).length + 1)).map (sloF walk))).zip ((List.range ((walk).length + 1)).map (gapF walk)))).length + 1)).map (hgtF walk)) (-1))))), .no, .no]) (le_rfl rfl) ?_))
    refine s_le (ρ1 := [.da ((eT eQ) walk), .da ((eL eQ) ((List.range ((walk).length + 1)).map (sloF walk))), .da ((eL eQ) ((List.range ((walk).length + 1)).map (gapF walk))), .no, .no, .da ((eL eQ) ((List.range ((((((List.range ((walk).length + 1)).map (sloF walk))).zip ((List.range ((walk).length + 1)).map (gapF walk)))).length + 1)).map (lowF walk))), .da ((eL eQ) ((List.range ((((((List.range ((walk).length + 1)).map (sloF walk))).zip ((List.range ((walk).length + 1)).map (gapF walk)))).length + 1)).map (hgtF walk))), .no, .no, .da (eQ (((((0 : Rat)) - ((ixG ((List.range ((((((List.range ((walk).length + 1)).map (sloF walk))).zip ((List.range ((walk).length + 1)).map (gapF walk)))).length + 1)).map (lowF walk)) (-1))))) / ((ixG ((List.range ((((((List.range ((walk).length + 1)).map (sloF walk))).zip ((List.range ((walk).length + 1)).map (gapF walk)))).length + 1)).map (hgtF walk)) (-1))))), .no, .no]) (le_same (le_same (le_same (le_no (le_no (le_frz (le_frz (le_no (le_no (le_same (le_no (le_no le_nil)))))))))))) ?_
    exact s_ret (ed_is (ed_tupleL (ed_L (el_lcAX (xs := ((((List.range ((((((List.range ((walk).length + 1)).map (sloF walk))).zip ((List.range ((walk).length + 1)).map (gapF walk)))).length + 1)).map (lowF walk))).zip ((List.range ((((((List.range ((walk).length + 1)).map (sloF walk))).zip ((List.range ((walk).length + 1)).map (gapF walk)))).length + 1)).map (hgtF walk)))) (ea := fun p => Itm.soft [eQ p.1, eQ p.2]) (enc := eQ) (fb := fun (x5 : (Rat × Rat)) => (((x5).1) + ((((((((0 : Rat)) - ((ixG ((List.range ((((((List.range ((walk).length + 1)).map (sloF walk))).zip ((List.range ((walk).length + 1)).map (gapF walk)))).length + 1)).map (lowF walk)) (-1))))) / ((ixG ((List.range ((((((List.range ((walk).length + 1)).map (sloF walk))).zip ((List.range ((walk).length + 1)).map (gapF walk)))).length + 1)).map (hgtF walk)) (-1))))) * ((x5).2))))) (ei_zipLX (ed_var rfl) (ed_var rfl)) (by simp; omega) (by simp) (fun _ _ x5 hx5 => ⟨_, rfl, (eg_soft (egs_cons (eg_name (by simp)) (egs_cons (eg_name (by simp)) egs_nil))), (ed_call (ds := [(eQ (x5).1), (eQ (((((((0 : Rat)) - ((ixG ((List.range ((((((List.range ((walk).length + 1)).map (sloF walk))).zip ((List.range ((walk).length + 1)).map (gapF walk)))).length + 1)).map (lowF walk)) (-1))))) / ((ixG ((List.range ((((((List.range ((walk).length + 1)).map (sloF walk))).zip ((List.range ((walk).length + 1)).map (gapF walk)))).length + 1)).map (hgtF walk)) (-1))))) * ((x5).2)))]) (ea_cons (ed_var rfl) (ea_cons (ed_call (ds := [(eQ (((((0 : Rat)) - ((ixG ((List.range ((((((List.range ((walk).length + 1)).map (sloF walk))).zip ((List.range ((walk).length + 1)).map (gapF walk)))).length + 1)).map (lowF walk)) (-1))))) / ((ixG ((List.range ((((((List.range ((walk).length + 1)).map (sloF walk))).zip ((List.range ((walk).length + 1)).map (gapF walk)))).length + 1)).map (hgtF walk)) (-1))))), (eQ (x5).2)]) (ea_cons (ed_var rfl) (ea_cons (ed_var rfl) ea_nil)) ⟨(((((0 : Rat)) - ((ixG ((List.range ((((((List.range ((walk).length + 1)).map (sloF walk))).zip ((List.range ((walk).length + 1)).map (gapF walk)))).length + 1)).map (lowF walk)) (-1))))) / ((ixG ((List.range ((((((List.range ((walk).length + 1)).map (sloF walk))).zip ((List.range ((walk).length + 1)).map (gapF walk)))).length + 1)).map (hgtF walk)) (-1)))), (x5).2, rfl, by rw [last_rng, last_rng, zlen]; exact (fir_qk h0).qb (by decide), by rw [zlen] at *; obtain ⟨k, hk, e1, e2⟩ := zipM_mem (by assumption); rw [e2]; exact (hgt_qk h0 (by omega)).qb (by decide), rfl⟩) ea_nil)) ⟨(x5).1, (((((((0 : Rat)) - ((ixG ((List.range ((((((List.range ((walk).length + 1)).map (sloF walk))).zip ((List.range ((walk).length + 1)).map (gapF walk)))).length + 1)).map (lowF walk)) (-1))))) / ((ixG ((List.range ((((((List.range ((walk).length + 1)).map (sloF walk))).zip ((List.range ((walk).length + 1)).map (gapF walk)))).length + 1)).map (hgtF walk)) (-1))))) * ((x5).2)), rfl, by rw [zlen] at *; obtain ⟨k, hk, e1, e2⟩ := zipM_mem (by assumption); rw [e1]; exact (low_qk h0 (by omega)).qb (by decide), by rw [last_rng, last_rng, zlen]; rw [zlen] at *; obtain ⟨k, hk, e1, e2⟩ := zipM_mem (by assumption); rw [e2]; exact (Qk_mul (fir_qk h0) (hgt_qk h0 (by omega))).qb (by decide), rfl⟩)⟩)))) (by rw [last_rng, last_rng, zlen, zmap]; rfl : ((eT eQ) ((((((List.range ((((((List.range ((walk).length + 1)).map (sloF walk))).zip ((List.range ((walk).length + 1)).map (gapF walk)))).length + 1)).map (lowF walk))).zip ((List.range ((((((List.range ((walk).length + 1)).map (sloF walk))).zip ((List.range ((walk).length + 1)).map (gapF walk)))).length + 1)).map (hgtF walk)))).map fun (x5 : (Rat × Rat)) => (((x5).1) + ((((((((0 : Rat)) - ((ixG ((List.range ((((((List.range ((walk).length + 1)).map (sloF walk))).zip ((List.range ((walk).length + 1)).map (gapF walk)))).length + 1)).map (lowF walk)) (-1))))) / ((ixG ((List.range ((((((List.range ((walk).length + 1)).map (sloF walk))).zip ((List.range ((walk).length + 1)).map (gapF walk)))).length + 1)).map (hgtF walk)) (-1))))) * ((x5).2)))))) = ((eT eQ) (stepsF walk)))) hR

/-! ### accept_top -/
abbrev s_accept_top : Stmt := topS 23
abbrev N_accept_top : List Str := ["walk", "chances", "at", "step"]
theorem sc_accept_top : FnScope N_accept_top ["walk", "chances"] (defScope s_accept_top) := ⟨rfl, rfl, rfl, by decide +kernel, rfl, by decide +kernel, by decide +kernel⟩
def R_accept_top : List PyData → Option Str → Prop := fun ds d => ∃ (walk : (List Rat)) (chances : (List Rat)), ds = [((eT eQ) walk), ((eT eQ) chances)] ∧ (WkOk walk) ∧ (walk.length ≤ 30 ∧ chances.length = walk.length + 2) ∧ (∀ r ∈ chances, Qk 700 r) ∧ d = (topW walk chances)
set_option maxHeartbeats 4000000 in
theorem ok_accept_top {P : Program} {w : World} {K : PySem.W.Frag} {mg : Str → Option Value} {base : Heap} {C C0 : Addr} (B : Gb K mg) (F : Fd K mg "accept_top" s_accept_top) (C_check_row : Cl P w K mg base 3 "check_row" ["walk", "value"] (SpP K R_check_row)) (C_check_walk : Cl P w K mg base 4 "check_walk" ["walk"] (SpP K R_check_walk)) (C_mean_of : Cl P w K mg base 5 "mean_of" ["step", "low", "high"] (SpP K R_mean_of)) (PK : PaperOk P w K mg base "PaperError" "OddsError" C C0) : ClX P w K mg base 6 "accept_top" ["walk", "chances"] (SpX K C R_accept_top) := by
  have BG := B
  obtain ⟨f, fd, F, hm⟩ := F.ex
  refine ⟨f, fd, fnX_of (k := 5) F sc_accept_top (spX_len fun ds d h => ?_) (fun cdv A outer s H E hr hgd => ⟨_, (pss_cons (ps_expr (pe_cl C_check_walk (hr.mono (by decide)) hgd (by rfl) (pa_cons (pv 0) pa_nil))) (pss_cons (ps_expr (pe_cl C_check_row (hr.mono (by decide)) hgd (by rfl) (pa_cons (pv 0) (pa_cons (pv 1) pa_nil)))) (pss_cons (ps_if (PW.pt (pw_or (pt_cmpR (r := rNeD K) (op_neD hr.units) (pe_ix (r := rIxT K) ix_tup (pv 1) pe_int (fun _ _ => rfl)) (pe_tupF (pa_cons pe_int (pa_cons pe_int pa_nil))) (nomark _)) (pw_or1 (pt_cmpR (r := rNeD K) (op_neD hr.units) (pe_ix (r := rIxT K) ix_tup (pv 1) (pe_un un_neg pe_int) (fun _ _ => rfl)) (pe_tupF (pa_cons pe_int (pa_cons pe_int pa_nil))) (nomark _))))) (pss_one (ps_raiseW PK.px rfl (takes_of rfl rfl rfl rfl) (hr.mono (by decide)) (by rfl) pe_str)) pss_nil) (pss_one (ps_for (passes_of rfl) rfl (pi_enumT (by rfl) B.enumerate_ (pa_cons (pv 0) pa_nil)) (pg_tup rfl (pgs_cons (pg_name (i := 2) sc_accept_top.nd rfl (Or.inl rfl)) (pgs_cons (pg_name (i := 3) sc_accept_top.nd rfl (Or.inl rfl)) pgs_nil))) (pss_one (ps_if (pt_cmpR (r := rNeD K) (op_neD hr.units) (pe_cl C_mean_of (hr.mono (by decide)) hgd (by rfl) (pa_cons (pv 3) (pa_cons (pe_ix (r := rIxT K) ix_tup (pv 1) (pv 2) (fun _ _ => rfl)) (pa_cons (pe_ix (r := rIxT K) ix_tup (pv 1) (pe_op op_add (pv 2) pe_int) (fun _ _ => rfl)) pa_nil)))) (pe_ix (r := rIxT K) ix_tup (pv 1) (pe_op op_add (pv 2) pe_int) (fun _ _ => rfl)) (nomark _)) (pss_one (ps_raiseW PK.px rfl (takes_of rfl rfl rfl rfl) (hr.mono (by decide)) (by rfl) pe_str)) pss_nil))))))), fun vs Q => fn_x (N := N_accept_top) (fun ds d h => ?_) (fun B S ds d h D hN hX => ?_) vs H Q⟩), hm, F.kp, F.binds fun _ _ _ _ _ _ us hl => match us, hl with | [_, _], _ => rfl⟩
  · obtain ⟨walk, chances, rfl, h0, h1, h2, rfl⟩ := h; rfl
  · obtain ⟨walk, chances, rfl, h0, h1, h2, rfl⟩ := h; simp
  · obtain ⟨walk, chances, rfl, h0, h1, h2, rfl⟩ := h
    have hw1 := h1.1
    have hw2 := h1.2
    show Ss _ _ [.da ((eT eQ) walk), .da ((eT eQ) chances), .no, .no] _ _
    refine s_seq (s_drop (ed_call (ds := [((eT eQ) walk)]) (ea_cons (ed_var rfl) ea_nil) ⟨walk, rfl, by exact h0, rfl⟩) ?_)
    refine s_seq (s_drop (ed_call (ds := [((eT eQ) walk), ((eT eQ) chances)]) (ea_cons (ed_var rfl) (ea_cons (ed_var rfl) ea_nil)) ⟨walk, chances, rfl, by exact h1, rfl⟩) ?_)
    refine s_seq (s_if (b := ((!decide ((ixG chances (0 : Int)) = (0 : Rat))) || (!decide ((ixG chances (-1)) = (1 : Rat))))) (et_or (et_test (ed_neQ (ed_ixTX (f := eQ) (l := chances) (ed_var rfl) ed_int (by exact ⟨by omega, by omega⟩)) (ed_is (d1 := eQ (0 : Rat)) (ed_tup (ds := [PyData.int (0 : Int), PyData.int (1 : Int)]) (ea_cons ed_int (ea_cons ed_int ea_nil))) (by rfl)))) (fun hb1 => (et_test (ed_neQ (ed_ixTX (f := eQ) (l := chances) (ed_var rfl) (ed_neg ed_int) (by exact ⟨by omega, by omega⟩)) (ed_is (d1 := eQ (1 : Rat)) (ed_tup (ds := [PyData.int (1 : Int), PyData.int (1 : Int)]) (ea_cons ed_int (ea_cons ed_int ea_nil))) (by rfl)))))) (fun hc0 => ?_) (fun hc0 => ?_))
    · exact s_raise ed_str (by decide) (hX _ (by exact topW_end h1.2 hc0))
    · refine s_next ?_
      refine (s_forN (β := Unit) ((walk).zipIdx) (fun p => Itm.soft [PyData.int (p.2 : Int), eQ p.1]) (ei_enumTX (ed_var rfl)) (fun i0 b0 => ∀ j, j < i0 → topWAt walk chances j = true) (fun i0 b0 => [.da ((eT eQ) walk), .da ((eT eQ) chances), .no, .no]) (()) (by intro j hj; exact absurd hj (Nat.not_lt_zero j)) (le_same (le_same (le_no (le_no le_nil)))) (fun T0 hT0 i0 x0 b0 hx0 hP0 => ⟨_, [2, 3], (eg_soft (egs_cons (eg_name (by simp)) (egs_cons (eg_name (by simp)) egs_nil))), ?_⟩) (fun b0 hP0 => ?_))
      · show Ss _ _ [.da ((eT eQ) walk), .da ((eT eQ) chances), .da (PyData.int ((x0).2 : Int)), .da (eQ (x0).1)] _ _
        have hi0 := (en_get hx0).2.2
        have hie := (en_get hx0).1
        have hxs := (en_get hx0).2.1
        have hs := h0.2 _ (List.mem_of_getElem? hxs)
        refine (s_if (b := (!decide ((mixF ((x0).1) ((ixG chances ((x0).2 : Int))) ((ixG chances (((x0).2 : Int) + (2 : Int))))) = (ixG chances (((x0).2 : Int) + (1 : Int)))))) (et_test (ed_neQ (ed_call (ds := [(eQ (x0).1), (eQ (ixG chances ((x0).2 : Int))), (eQ (ixG chances (((x0).2 : Int) + (2 : Int))))]) (ea_cons (ed_var rfl) (ea_cons (ed_ixTX (f := eQ) (l := chances) (ed_var rfl) (ed_var rfl) (by exact ⟨by omega, by omega⟩)) (ea_cons (ed_ixTX (f := eQ) (l := chances) (ed_var rfl) (ed_I0 (ed_var rfl) ed_int) (by exact ⟨by omega, by omega⟩)) ea_nil))) ⟨(x0).1, (ixG chances ((x0).2 : Int)), (ixG chances (((x0).2 : Int) + (2 : Int))), rfl, by exact hs, by exact h2 _ (ixG_mem (by omega)), by exact h2 _ (ixG_mem (by omega)), rfl⟩) (ed_ixTX (f := eQ) (l := chances) (ed_var rfl) (ed_I0 (ed_var rfl) ed_int) (by exact ⟨by omega, by omega⟩)))) (fun hc1 => ?_) (fun hc1 => ?_))
        · exact s_raise ed_str (by decide) (hX _ (by exact topW_no h1.2 hc0 hx0 hc1))
        · refine s_next ?_
          exact s_endN () (by exact acc_next hP0 (topW_on hx0 hc1)) (le_same (le_same (le_no (le_no le_nil))))
      · exact hN (by exact topW_yes h1.2 hc0 hP0) _ _

/-! ### accept_mean_steps -/
abbrev s_accept_mean_steps : Stmt := topS 27
abbrev N_accept_mean_steps : List Str := ["walk", "steps", "at", "step"]
theorem sc_accept_mean_steps : FnScope N_accept_mean_steps ["walk", "steps"] (defScope s_accept_mean_steps) := ⟨rfl, rfl, rfl, by decide +kernel, rfl, by decide +kernel, by decide +kernel⟩
def R_accept_mean_steps : List PyData → Option Str → Prop := fun ds d => ∃ (walk : (List Rat)) (steps : (List Rat)), ds = [((eT eQ) walk), ((eT eQ) steps)] ∧ (WkOk walk) ∧ (walk.length ≤ 30 ∧ steps.length = walk.length + 2) ∧ (∀ r ∈ steps, Qk 700 r) ∧ d = (stepW walk steps)
set_option maxHeartbeats 4000000 in
theorem ok_accept_mean_steps {P : Program} {w : World} {K : PySem.W.Frag} {mg : Str → Option Value} {base : Heap} {C C0 : Addr} (B : Gb K mg) (F : Fd K mg "accept_mean_steps" s_accept_mean_steps) (C_check_row : Cl P w K mg base 3 "check_row" ["walk", "value"] (SpP K R_check_row)) (C_check_walk : Cl P w K mg base 4 "check_walk" ["walk"] (SpP K R_check_walk)) (C_mean_of : Cl P w K mg base 5 "mean_of" ["step", "low", "high"] (SpP K R_mean_of)) (C_plus : Cl P w K mg base 3 "plus" ["first", "second"] (SpP K R_plus)) (PK : PaperOk P w K mg base "PaperError" "OddsError" C C0) : ClX P w K mg base 6 "accept_mean_steps" ["walk", "steps"] (SpX K C R_accept_mean_steps) := by
  have BG := B
  obtain ⟨f, fd, F, hm⟩ := F.ex
  refine ⟨f, fd, fnX_of (k := 5) F sc_accept_mean_steps (spX_len fun ds d h => ?_) (fun cdv A outer s H E hr hgd => ⟨_, (pss_cons (ps_expr (pe_cl C_check_walk (hr.mono (by decide)) hgd (by rfl) (pa_cons (pv 0) pa_nil))) (pss_cons (ps_expr (pe_cl C_check_row (hr.mono (by decide)) hgd (by rfl) (pa_cons (pv 0) (pa_cons (pv 1) pa_nil)))) (pss_cons (ps_if (PW.pt (pw_or (pt_cmpR (r := rNeD K) (op_neD hr.units) (pe_ix (r := rIxT K) ix_tup (pv 1) pe_int (fun _ _ => rfl)) (pe_tupF (pa_cons pe_int (pa_cons pe_int pa_nil))) (nomark _)) (pw_or1 (pt_cmpR (r := rNeD K) (op_neD hr.units) (pe_ix (r := rIxT K) ix_tup (pv 1) (pe_un un_neg pe_int) (fun _ _ => rfl)) (pe_tupF (pa_cons pe_int (pa_cons pe_int pa_nil))) (nomark _))))) (pss_one (ps_raiseW PK.px rfl (takes_of rfl rfl rfl rfl) (hr.mono (by decide)) (by rfl) pe_str)) pss_nil) (pss_one (ps_for (passes_of rfl) rfl (pi_enumT (by rfl) B.enumerate_ (pa_cons (pv 0) pa_nil)) (pg_tup rfl (pgs_cons (pg_name (i := 2) sc_accept_mean_steps.nd rfl (Or.inl rfl)) (pgs_cons (pg_name (i := 3) sc_accept_mean_steps.nd rfl (Or.inl rfl)) pgs_nil))) (pss_one (ps_if (pt_cmpR (r := rNeD K) (op_neD hr.units) (pe_cl C_plus (hr.mono (by decide)) hgd (by rfl) (pa_cons (pe_tupF (pa_cons pe_int (pa_cons pe_int pa_nil))) (pa_cons (pe_cl C_mean_of (hr.mono (by decide)) hgd (by rfl) (pa_cons (pv 3) (pa_cons (pe_ix (r := rIxT K) ix_tup (pv 1) (pv 2) (fun _ _ => rfl)) (pa_cons (pe_ix (r := rIxT K) ix_tup (pv 1) (pe_op op_add (pv 2) pe_int) (fun _ _ => rfl)) pa_nil)))) pa_nil))) (pe_ix (r := rIxT K) ix_tup (pv 1) (pe_op op_add (pv 2) pe_int) (fun _ _ => rfl)) (nomark _)) (pss_one (ps_raiseW PK.px rfl (takes_of rfl rfl rfl rfl) (hr.mono (by decide)) (by rfl) pe_str)) pss_nil))))))), fun vs Q => fn_x (N := N_accept_mean_steps) (fun ds d h => ?_) (fun B S ds d h D hN hX => ?_) vs H Q⟩), hm, F.kp, F.binds fun _ _ _ _ _ _ us hl => match us, hl with | [_, _], _ => rfl⟩
  · obtain ⟨walk, steps, rfl, h0, h1, h2, rfl⟩ := h; rfl
  · obtain ⟨walk, steps, rfl, h0, h1, h2, rfl⟩ := h; simp
  · obtain ⟨walk, steps, rfl, h0, h1, h2, rfl⟩ := h
    have hw1 := h1.1
    have hw2 := h1.2
    show Ss _ _ [.da ((eT eQ) walk), .da ((eT eQ) steps), .no, .no] _ _
    refine s_seq (s_drop (ed_call (ds := [((eT eQ) walk)]) (ea_cons (ed_var rfl) ea_nil) ⟨walk, rfl, by exact h0, rfl⟩) ?_)
    refine s_seq (s_drop (ed_call (ds := [((eT eQ) walk), ((eT eQ) steps)]) (ea_cons (ed_var rfl) (ea_cons (ed_var rfl) ea_nil)) ⟨walk, steps, rfl, by exact h1, rfl⟩) ?_)
    refine s_seq (s_if (b := ((!decide ((ixG steps (0 : Int)) = (0 : Rat))) || (!decide ((ixG steps (-1)) = (0 : Rat))))) (et_or (et_test (ed_neQ (ed_ixTX (f := eQ) (l := steps) (ed_var rfl) ed_int (by exact ⟨by omega, by omega⟩)) (ed_is (d1 := eQ (0 : Rat)) (ed_tup (ds := [PyData.int (0 : Int), PyData.int (1 : Int)]) (ea_cons ed_int (ea_cons ed_int ea_nil))) (by rfl)))) (fun hb1 => (et_test (ed_neQ (ed_ixTX (f := eQ) (l := steps) (ed_var rfl) (ed_neg ed_int) (by exact ⟨by omega, by omega⟩)) (ed_is (d1 := eQ (0 : Rat)) (ed_tup (ds := [PyData.int (0 : Int), PyData.int (1 : Int)]) (ea_cons ed_int (ea_cons ed_int ea_nil))) (by rfl)))))) (fun hc0 => ?_) (fun hc0 => ?_))
    · exact s_raise ed_str (by decide) (hX _ (by exact stepW_end h1.2 hc0))
    · refine s_next ?_
      refine (s_forN (β := Unit) ((walk).zipIdx) (fun p => Itm.soft [PyData.int (p.2 : Int), eQ p.1]) (ei_enumTX (ed_var rfl)) (fun i0 b0 => ∀ j, j < i0 → stepWAt walk steps j = true) (fun i0 b0 => [.da ((eT eQ) walk), .da ((eT eQ) steps), .no, .no]) (()) (by intro j hj; exact absurd hj (Nat.not_lt_zero j)) (le_same (le_same (le_no (le_no le_nil)))) (fun T0 hT0 i0 x0 b0 hx0 hP0 => ⟨_, [2, 3], (eg_soft (egs_cons (eg_name (by simp)) (egs_cons (eg_name (by simp)) egs_nil))), ?_⟩) (fun b0 hP0 => ?_))
      · show Ss _ _ [.da ((eT eQ) walk), .da ((eT eQ) steps), .da (PyData.int ((x0).2 : Int)), .da (eQ (x0).1)] _ _
        have hi0 := (en_get hx0).2.2
        have hie := (en_get hx0).1
        have hxs := (en_get hx0).2.1
        have hs := h0.2 _ (List.mem_of_getElem? hxs)
        refine (s_if (b := (!decide ((((1 : Rat)) + ((mixF ((x0).1) ((ixG steps ((x0).2 : Int))) ((ixG steps (((x0).2 : Int) + (2 : Int))))))) = (ixG steps (((x0).2 : Int) + (1 : Int)))))) (et_test (ed_neQ (ed_call (ds := [(eQ (1 : Rat)), (eQ (mixF ((x0).1) ((ixG steps ((x0).2 : Int))) ((ixG steps (((x0).2 : Int) + (2 : Int))))))]) (ea_cons (ed_is (d1 := eQ (1 : Rat)) (ed_tup (ds := [PyData.int (1 : Int), PyData.int (1 : Int)]) (ea_cons ed_int (ea_cons ed_int ea_nil))) (by rfl)) (ea_cons (ed_call (ds := [(eQ (x0).1), (eQ (ixG steps ((x0).2 : Int))), (eQ (ixG steps (((x0).2 : Int) + (2 : Int))))]) (ea_cons (ed_var rfl) (ea_cons (ed_ixTX (f := eQ) (l := steps) (ed_var rfl) (ed_var rfl) (by exact ⟨by omega, by omega⟩)) (ea_cons (ed_ixTX (f := eQ) (l := steps) (ed_var rfl) (ed_I0 (ed_var rfl) ed_int) (by exact ⟨by omega, by omega⟩)) ea_nil))) ⟨(x0).1, (ixG steps ((x0).2 : Int)), (ixG steps (((x0).2 : Int) + (2 : Int))), rfl, by exact hs, by exact h2 _ (ixG_mem (by omega)), by exact h2 _ (ixG_mem (by omega)), rfl⟩) ea_nil)) ⟨(1 : Rat), (mixF ((x0).1) ((ixG steps ((x0).2 : Int))) ((ixG steps (((x0).2 : Int) + (2 : Int))))), rfl, by exact (Qk_one 0).qb (by decide), by exact (mix_qk hs (h2 _ (ixG_mem (by omega))) (h2 _ (ixG_mem (by omega)))).qb (by decide), rfl⟩) (ed_ixTX (f := eQ) (l := steps) (ed_var rfl) (ed_I0 (ed_var rfl) ed_int) (by exact ⟨by omega, by omega⟩)))) (fun hc1 => ?_) (fun hc1 => ?_))
        · exact s_raise ed_str (by decide) (hX _ (by exact stepW_no h1.2 hc0 hx0 hc1))
        · refine s_next ?_
          exact s_endN () (by exact acc_next hP0 (stepW_on hx0 hc1)) (le_same (le_same (le_no (le_no le_nil))))
      · exact hN (by exact stepW_yes h1.2 hc0 hP0) _ _

/-! ### _law_refused_accept_top -/
abbrev s_law_refused_accept_top : Stmt := topS 42
abbrev N_law_refused_accept_top : List Str := ["way", "walk", "rows", "error"]
theorem sc_law_refused_accept_top : FnScope N_law_refused_accept_top ["way", "walk", "rows"] (defScope s_law_refused_accept_top) := ⟨rfl, rfl, rfl, by decide +kernel, rfl, by decide +kernel, by decide +kernel⟩
theorem ok_law_refused_accept_top {P : Program} {w : World} {K : PySem.W.Frag} {mg : Str → Option Value} {base : Heap} {C C0 : Addr} (B : Gb K mg) (F : Fd K mg "_law_refused" s_law_refused_accept_top) (C_accept_top : ClX P w K mg base 6 "accept_top" ["walk", "chances"] (SpX K C R_accept_top)) (PK : PaperOk P w K mg base "PaperError" "OddsError" C C0) : Cl P w K mg base 7 "_law_refused" ["way", "walk", "rows"] (SpRef K mg "accept_top" R_accept_top) := by
  obtain ⟨f, fd, F, hm⟩ := F.ex
  obtain ⟨fy, fdy, FY, hy, ky, hby⟩ := C_accept_top.ex
  refine ⟨f, fd, fnG_of (k := 6) F sc_law_refused_accept_top (fun vs H Q h => ?_) (fun cdv A outer s H hr hgd => ⟨_, (pss_cons (ps_try_as (c := .ref C0) (i := 3) (Wout := fun _ _ _ _ => False) (tb := fun W => tSeq (tDrop (tCallX 0 fy (SpX K C R_accept_top) W (tCons (tVar 1) (tCons (tVar 2) tNil)))) tNext) (ts := tsRef K C) rfl rfl sc_law_refused_accept_top.nd rfl rfl ⟨by rfl, rfl, .inl PK.c0⟩ takes_no (fun W pn xe tk ps => pss_cons (ps_expr (pe_callX FY (hr.mono (by decide)) hgd rfl (Or.inl rfl) ky hby tk (pa_cons (pv 1) (pa_cons (pv 2) pa_nil)))) pss_nil) (fun a oe cls d pn hz hf => pss_cons (ps_ret (pe_ifExp (pt_truth (pe_callB (call_isX hz) (by rfl) B.isinstance_ PyProof.Rows.boot_isinstance (pa_cons (pv 3) (pa_cons (pe_glob (by rfl) PK.px.at_ rfl) pa_nil))) (fun _ => rfl)) (pe_xf PK.xf PK.noR hz hf (pv 3)) pe_str)) pss_nil)) (pss_cons (ps_ret pe_str) pss_nil)), fun vs Q h => ?_⟩), hm, F.kp, F.binds fun _ _ _ _ _ _ us hl => match us, hl with | [_, _, _], _ => rfl⟩
  · obtain ⟨f1, vs1, _, rfl, hl, _⟩ := h
    simp [hl]
  · obtain ⟨f1, vs1, h1, rfl, hl, hsp⟩ := h
    match vs1, hl with
    | [v1, v2], _ =>
      rw [hy] at h1
      cases h1
      exact ref_run PK.is0 hsp

/-! ### _law_refused_accept_mean_steps -/
abbrev s_law_refused_accept_mean_steps : Stmt := topS 42
abbrev N_law_refused_accept_mean_steps : List Str := ["way", "walk", "rows", "error"]
theorem sc_law_refused_accept_mean_steps : FnScope N_law_refused_accept_mean_steps ["way", "walk", "rows"] (defScope s_law_refused_accept_mean_steps) := ⟨rfl, rfl, rfl, by decide +kernel, rfl, by decide +kernel, by decide +kernel⟩
theorem ok_law_refused_accept_mean_steps {P : Program} {w : World} {K : PySem.W.Frag} {mg : Str → Option Value} {base : Heap} {C C0 : Addr} (B : Gb K mg) (F : Fd K mg "_law_refused" s_law_refused_accept_mean_steps) (C_accept_mean_steps : ClX P w K mg base 6 "accept_mean_steps" ["walk", "steps"] (SpX K C R_accept_mean_steps)) (PK : PaperOk P w K mg base "PaperError" "OddsError" C C0) : Cl P w K mg base 7 "_law_refused" ["way", "walk", "rows"] (SpRef K mg "accept_mean_steps" R_accept_mean_steps) := by
  obtain ⟨f, fd, F, hm⟩ := F.ex
  obtain ⟨fy, fdy, FY, hy, ky, hby⟩ := C_accept_mean_steps.ex
  refine ⟨f, fd, fnG_of (k := 6) F sc_law_refused_accept_mean_steps (fun vs H Q h => ?_) (fun cdv A outer s H hr hgd => ⟨_, (pss_cons (ps_try_as (c := .ref C0) (i := 3) (Wout := fun _ _ _ _ => False) (tb := fun W => tSeq (tDrop (tCallX 0 fy (SpX K C R_accept_mean_steps) W (tCons (tVar 1) (tCons (tVar 2) tNil)))) tNext) (ts := tsRef K C) rfl rfl sc_law_refused_accept_mean_steps.nd rfl rfl ⟨by rfl, rfl, .inl PK.c0⟩ takes_no (fun W pn xe tk ps => pss_cons (ps_expr (pe_callX FY (hr.mono (by decide)) hgd rfl (Or.inl rfl) ky hby tk (pa_cons (pv 1) (pa_cons (pv 2) pa_nil)))) pss_nil) (fun a oe cls d pn hz hf => pss_cons (ps_ret (pe_ifExp (pt_truth (pe_callB (call_isX hz) (by rfl) B.isinstance_ PyProof.Rows.boot_isinstance (pa_cons (pv 3) (pa_cons (pe_glob (by rfl) PK.px.at_ rfl) pa_nil))) (fun _ => rfl)) (pe_xf PK.xf PK.noR hz hf (pv 3)) pe_str)) pss_nil)) (pss_cons (ps_ret pe_str) pss_nil)), fun vs Q h => ?_⟩), hm, F.kp, F.binds fun _ _ _ _ _ _ us hl => match us, hl with | [_, _, _], _ => rfl⟩
  · obtain ⟨f1, vs1, _, rfl, hl, _⟩ := h
    simp [hl]
  · obtain ⟨f1, vs1, h1, rfl, hl, hsp⟩ := h
    match vs1, hl with
    | [v1, v2], _ =>
      rw [hy] at h1
      cases h1
      exact ref_run PK.is0 hsp

/-! ### places_behind -/
abbrev s_places_behind : Stmt := topS 28
abbrev N_places_behind : List Str := ["walk", "place", "steps", "many", "row", "at", "turn", "further", "step"]
theorem sc_places_behind : FnScope N_places_behind ["walk", "place", "steps"] (defScope s_places_behind) := ⟨rfl, rfl, rfl, by decide +kernel, rfl, by decide +kernel, by decide +kernel⟩
def R_places_behind : List PyData → PyData → Prop := fun ds d => ∃ (walk : (List Rat)) (place : Int) (steps : Int), ds = [((eT eQ) walk), (PyData.int place), (PyData.int steps)] ∧ (WkOk walk) ∧ (0 ≤ place ∧ place ≤ (walk.length : Int) + 1) ∧ (0 ≤ steps ∧ steps ≤ 40) ∧ d = ((eT eQ) (behF walk place.toNat steps.toNat))
set_option maxHeartbeats 4000000 in
theorem ok_places_behind {P : Program} {w : World} {K : PySem.W.Frag} {mg : Str → Option Value} {base : Heap} (B : Gb K mg) (F : Fd K mg "places_behind" s_places_behind) (C_check_place : Cl P w K mg base 2 "check_place" ["walk", "place"] (SpP K R_check_place)) (C_check_walk : Cl P w K mg base 4 "check_walk" ["walk"] (SpP K R_check_walk)) (C_down_of : Cl P w K mg base 4 "down_of" ["step"] (SpP K R_down_of)) (C_is_integer : Cl P w K mg base 1 "is_integer" ["value"] (SpP K R_is_integer)) (C_plus : Cl P w K mg base 3 "plus" ["first", "second"] (SpP K R_plus)) (C_times : Cl P w K mg base 3 "times" ["first", "second"] (SpP K R_times)) : Cl P w K mg base 5 "places_behind" ["walk", "place", "steps"] (SpP K R_places_behind) := by
  have BG := B
  obtain ⟨f, fd, F, hm⟩ := F.ex
  refine ⟨f, fd, fnG_of (k := 4) F sc_places_behind (spP_len fun ds d h => ?_) (fun cdv A outer s H hr hgd => ⟨_, (pss_cons (ps_expr (pe_cl C_check_walk (hr.mono (by decide)) hgd (by rfl) (pa_cons (pv 0) pa_nil))) (pss_cons (ps_expr (pe_cl C_check_place (hr.mono (by decide)) hgd (by rfl) (pa_cons (pv 0) (pa_cons (pv 1) pa_nil)))) (pss_cons (ps_if (PW.pt (pw_or (pt_not (pt_truth (pe_cl C_is_integer (hr.mono (by decide)) hgd (by rfl) (pa_cons (pv 2) pa_nil)) (fun _ => rfl))) (pw_or1 (pt_not (pt_chain op_le op_le pe_int (pv 2) (pe_glob (v := .int 40) rfl B.c_MAX_TIMES.choose_spec ⟨_, rfl⟩)))))) pss_never pss_nil) (pss_cons (ps_set (i := 3) sc_places_behind.nd rfl (Or.inl rfl) (pe_op op_add (pe_callB (r := rLenS K) call_len_seq (by rfl) B.len_ PySem.boot_len (pa_cons (pv 0) pa_nil)) pe_int)) (pss_cons (ps_setLc (i := 4) (own := [("at", 5)]) (g := _) (tt := tYes) rfl sc_places_behind.nd rfl rfl (sw_true rfl rfl rfl (by decide +kernel)) (pi_range1 (by rfl) B.range_ (pa_cons (pv 3) pa_nil)) (blkOk_by (N := N_places_behind) (sc := defScope s_places_behind) (by decide +kernel)) (fun _ _ _ _ _ => (pg_name (i := 5) sc_places_behind.nd rfl (by first | exact Or.inl rfl | exact Or.inr rfl))) (fun _ _ _ _ _ => pts_nil) (fun _ _ _ _ _ => (pe_tupF (pa_cons (pe_callTy call_int1 (by rfl) B.int_ PyProof.Rows.boot_int (pa_cons (pe_cmpR (r := rEqD K) (op_eqD hr.units) (pv 5) (pv 1) (nomark _)) pa_nil)) (pa_cons pe_int pa_nil))))) (pss_cons (ps_for PassesOwn.never rfl (pi_range1 (by rfl) B.range_ (pa_cons (pv 2) pa_nil)) (pg_name (i := 6) sc_places_behind.nd rfl (Or.inl rfl)) (pss_cons (ps_set (i := 7) sc_places_behind.nd rfl (Or.inl rfl) (pe_op (r := rCatG K) op_catG (pe_op (r := rCatG K) op_catG (pe_lst (pa_cons (pe_ix (r := rIxL K) ix_list (pv 4) pe_int (fun _ _ => rfl)) pa_nil)) (pe_op op_rep (pe_lst (pa_cons (pe_tupF (pa_cons pe_int (pa_cons pe_int pa_nil))) pa_nil)) (pe_op op_sub (pv 3) pe_int))) (pe_lst (pa_cons (pe_ix (r := rIxL K) ix_list (pv 4) (pe_un un_neg pe_int) (fun _ _ => rfl)) pa_nil)))) (pss_cons (ps_for PassesOwn.never rfl (pi_enumT (by rfl) B.enumerate_ (pa_cons (pv 0) pa_nil)) (pg_tup rfl (pgs_cons (pg_name (i := 5) sc_places_behind.nd rfl (Or.inl rfl)) (pgs_cons (pg_name (i := 8) sc_places_behind.nd rfl (Or.inl rfl)) pgs_nil))) (pss_cons (ps_asg (pe_cl C_plus (hr.mono (by decide)) hgd (by rfl) (pa_cons (pe_ix (r := rIxL K) ix_list (pv 7) (pv 5) (fun _ _ => rfl)) (pa_cons (pe_cl C_times (hr.mono (by decide)) hgd (by rfl) (pa_cons (pe_ix (r := rIxL K) ix_list (pv 4) (pe_op op_add (pv 5) pe_int) (fun _ _ => rfl)) (pa_cons (pe_cl C_down_of (hr.mono (by decide)) hgd (by rfl) (pa_cons (pv 8) pa_nil)) pa_nil))) pa_nil))) (pg_sub (pv 7) (pv 5) set_list (fun _ => rfl)) rfl) (pss_one (ps_asg (pe_cl C_plus (hr.mono (by decide)) hgd (by rfl) (pa_cons (pe_ix (r := rIxL K) ix_list (pv 7) (pe_op op_add (pv 5) pe_int) (fun _ _ => rfl)) (pa_cons (pe_cl C_times (hr.mono (by decide)) hgd (by rfl) (pa_cons (pe_ix (r := rIxL K) ix_list (pv 4) (pe_op op_add (pv 5) pe_int) (fun _ _ => rfl)) (pa_cons (pv 8) pa_nil))) pa_nil))) (pg_sub (pv 7) (pe_op op_add (pv 5) pe_int) set_list (fun _ => rfl)) rfl)))) (pss_one (ps_set (i := 4) sc_places_behind.nd rfl (Or.inl rfl) (pv 7)))))) (pss_one (ps_ret (pe_callTy (r := rTupOf K) call_tupleF (by rfl) B.tuple_ PyProof.Rows.boot_tuple (pa_cons (pv 4) pa_nil)))))))))), fun vs Q => fn_pure (N := N_places_behind) (fun ds d h => ?_) (fun B S ds d h D hR hN => ?_) vs H Q E0⟩), hm, F.kp, F.binds fun _ _ _ _ _ _ us hl => match us, hl with | [_, _, _], _ => rfl⟩
  · obtain ⟨walk, place, steps, rfl, h0, h1, h2, rfl⟩ := h; rfl
  · obtain ⟨walk, place, steps, rfl, h0, h1, h2, rfl⟩ := h; simp
  · obtain ⟨walk, place, steps, rfl, h0, h1, h2, rfl⟩ := h
    have hw2 := h0.1.2
    show Ss _ _ [.da ((eT eQ) walk), .da (PyData.int place), .da (PyData.int steps), .no, .no, .no, .no, .no, .no] _ _
    refine s_seq (s_drop (ed_call (ds := [((eT eQ) walk)]) (ea_cons (ed_var rfl) ea_nil) ⟨walk, rfl, by exact h0, rfl⟩) ?_)
    refine s_seq (s_drop (ed_call (ds := [((eT eQ) walk), (PyData.int place)]) (ea_cons (ed_var rfl) (ea_cons (ed_var rfl) ea_nil)) ⟨walk, place, rfl, by exact h0, by exact h1, rfl⟩) ?_)
    refine s_seq (s_skip (et_or (et_not (et_truB (ed_call (ds := [(PyData.int steps)]) (ea_cons (ed_var rfl) ea_nil) ⟨(PyData.int steps), rfl, rfl⟩))) (fun hb2 => (et_not (et_chain (ed_chain ed_int (ed_var rfl) (fun hb1 => ed_int)))))) (by simp [isIntD, isi_int, isi_bool]; omega : ((!(isIntD ((PyData.int steps)))) || (!(decide ((0 : Int) ≤ steps) && decide (steps ≤ (40 : Int))))) = false) ?_)
    refine s_seq (s_asg (ed_I0 (ed_lenTX (ed_var rfl)) ed_int) (s_le (ρ1 := [.da ((eT eQ) walk), .da (PyData.int place), .da (PyData.int steps), .da (PyData.int (((walk).length : Int) + (2 : Int))), .no, .no, .no, .no, .no]) (le_rfl rfl) ?_))
    refine s_seq (s_asg (ed_is (ed_L (el_lcAX (xs := (List.range ((((walk).length : Int) + (2 : Int))).toNat)) (ea := fun (i : Nat) => Itm.hard (PyData.int (i : Int))) (enc := eQ) (fb := fun (x3 : Nat) => (((if (decide ((x3 : Int) = place)) then (1 : Int) else 0) : Int) : Rat)) (ei_rng (ed_var rfl) (by omega)) (by simp; omega) (by simp) (fun _ _ x3 hx3 => ⟨_, rfl, (eg_name (by simp)), (ed_is (d1 := eQ (((if (decide ((x3 : Int) = place)) then (1 : Int) else 0) : Int) : Rat)) (ed_tup (ds := [PyData.int (if (decide ((x3 : Int) = place)) then (1 : Int) else 0), PyData.int (1 : Int)]) (ea_cons (ed_intB (ed_eqI (ed_var rfl) (ed_var rfl))) (ea_cons ed_int ea_nil))) rfl)⟩))) (by exact beh_init h1 : _ = ((eL eQ) (rowL walk (dl place.toNat))))) (s_le (ρ1 := [.da ((eT eQ) walk), .da (PyData.int place), .da (PyData.int steps), .da (PyData.int (((walk).length : Int) + (2 : Int))), .da ((eL eQ) (rowL walk (dl place.toNat))), .no, .no, .no, .no]) (le_rfl rfl) ?_))
    refine s_seq (s_forX ((List.range (steps).toNat)) (fun (i : Nat) => Itm.hard (PyData.int (i : Int))) (ei_rng (ed_var rfl) (by omega)) (fun i0 => [.da ((eT eQ) walk), .da (PyData.int place), .da (PyData.int steps), .da (PyData.int (((walk).length : Int) + (2 : Int))), .da ((eL eQ) (rowL walk (itF walk i0 (dl place.toNat)))), .no, .no, .no, .no]) (le_same (le_same (le_same (le_same (le_da (by rfl) (le_no (le_no (le_no (le_no le_nil))))))))) (fun T0 hT0 i0 x0 hx0 => ⟨_, [6], (eg_name (by simp)), ?_⟩) ?_)
    · show Ss _ _ [.da ((eT eQ) walk), .da (PyData.int place), .da (PyData.int steps), .da (PyData.int (((walk).length : Int) + (2 : Int))), .da ((eL eQ) (rowL walk (itF walk i0 (dl place.toNat)))), .no, .da (PyData.int (x0 : Int)), .no, .no] _ _
      have hi0 := rng_get hx0
      have hb := it_bd h0 place.toNat i0
      refine s_seq (s_asgM (ds := ((rowL walk (furF walk (itF walk i0 (dl place.toNat)) 0))).map eQ) (el_is (el_cat (ed_L (el_cat (ed_L (el_lst (ds := [(ixG (rowL walk (itF walk i0 (dl place.toNat))) (0 : Int))].map eQ) (ea_cons (ed_ixLX (f := eQ) (l := (rowL walk (itF walk i0 (dl place.toNat)))) (ed_var rfl) ed_int (by simp only [List.length_set, rowL_len]; exact ⟨by omega, by omega⟩)) ea_nil))) (ed_L (el_rep (el_lst (ds := [(0 : Rat)].map eQ) (ea_cons (ed_is (d1 := eQ (0 : Rat)) (ed_tup (ds := [PyData.int (0 : Int), PyData.int (1 : Int)]) (ea_cons ed_int (ea_cons ed_int ea_nil))) (by rfl)) ea_nil)) (fun _ _ => (ed_I0 (ed_var rfl) ed_int)) (by simp; omega))) (by simp; omega))) (ed_L (el_lst (ds := [(ixG (rowL walk (itF walk i0 (dl place.toNat))) (-1))].map eQ) (ea_cons (ed_ixLX (f := eQ) (l := (rowL walk (itF walk i0 (dl place.toNat)))) (ed_var rfl) (ed_neg ed_int) (by simp only [List.length_set, rowL_len]; exact ⟨by omega, by omega⟩)) ea_nil))) (by simp; omega)) (by exact congrArg (List.map eQ) (fur_init _ _) : _ = ((rowL walk (furF walk (itF walk i0 (dl place.toNat)) 0))).map eQ)) (fun p_further4 => s_le (ρ1 := [.da ((eT eQ) walk), .da (PyData.int place), .da (PyData.int steps), .da (PyData.int (((walk).length : Int) + (2 : Int))), .da ((eL eQ) (rowL walk (itF walk i0 (dl place.toNat)))), .no, .da (PyData.int (x0 : Int)), .mu true p_further4 (.lst ((rowL walk (furF walk (itF walk i0 (dl place.toNat)) 0)).map eQ)), .no]) (le_rfl rfl) ?_))
      refine s_seq (s_forX ((walk).zipIdx) (fun p => Itm.soft [PyData.int (p.2 : Int), eQ p.1]) (ei_enumTX (ed_var rfl)) (fun i1 => [.da ((eT eQ) walk), .da (PyData.int place), .da (PyData.int steps), .da (PyData.int (((walk).length : Int) + (2 : Int))), .da ((eL eQ) (rowL walk (itF walk i0 (dl place.toNat)))), .no, .da (PyData.int (x0 : Int)), .mu true p_further4 (.lst ((rowL walk (furF walk (itF walk i0 (dl place.toNat)) i1)).map eQ)), .no]) (le_same (le_same (le_same (le_same (le_same (le_no (le_same (le_same (le_no le_nil))))))))) (fun T1 hT1 i1 x1 hx1 => ⟨_, [5, 8], (eg_soft (egs_cons (eg_name (by simp)) (egs_cons (eg_name (by simp)) egs_nil))), ?_⟩) ?_)
      · show Ss _ _ [.da ((eT eQ) walk), .da (PyData.int place), .da (PyData.int steps), .da (PyData.int (((walk).length : Int) + (2 : Int))), .da ((eL eQ) (rowL walk (itF walk i0 (dl place.toNat)))), .da (PyData.int ((x1).2 : Int)), .da (PyData.int (x0 : Int)), .mu true p_further4 (.lst ((rowL walk (furF walk (itF walk i0 (dl place.toNat)) i1)).map eQ)), .da (eQ (x1).1)] _ _
        have hi1 := (en_get hx1).2.2
        have hie := (en_get hx1).1
        have hxs := (en_get hx1).2.1
        have hs := h0.2 _ (List.mem_of_getElem? hxs)
        refine s_seq (s_setLX (f := eQ) (xs := (rowL walk (furF walk (itF walk i0 (dl place.toNat)) i1))) (x := (((ixG (rowL walk (furF walk (itF walk i0 (dl place.toNat)) i1)) ((x1).2 : Int))) + ((((ixG (rowL walk (itF walk i0 (dl place.toNat))) (((x1).2 : Int) + (1 : Int)))) * ((1 - ((x1).1))))))) (ed_call (ds := [(eQ (ixG (rowL walk (furF walk (itF walk i0 (dl place.toNat)) i1)) ((x1).2 : Int))), (eQ (((ixG (rowL walk (itF walk i0 (dl place.toNat))) (((x1).2 : Int) + (1 : Int)))) * ((1 - ((x1).1)))))]) (ea_cons (ed_ixMX (f := eQ) (xs := (rowL walk (furF walk (itF walk i0 (dl place.toNat)) i1))) (ed_var rfl) rfl ⟨_, _, rfl⟩ (by simp only [List.length_set, rowL_len]; exact ⟨by omega, by omega⟩)) (ea_cons (ed_call (ds := [(eQ (ixG (rowL walk (itF walk i0 (dl place.toNat))) (((x1).2 : Int) + (1 : Int)))), (eQ (1 - ((x1).1)))]) (ea_cons (ed_ixLX (f := eQ) (l := (rowL walk (itF walk i0 (dl place.toNat)))) (ed_var rfl) (ed_I0 (ed_var rfl) ed_int) (by simp only [List.length_set, rowL_len]; exact ⟨by omega, by omega⟩)) (ea_cons (ed_call (ds := [(eQ (x1).1)]) (ea_cons (ed_var rfl) ea_nil) ⟨(x1).1, rfl, by exact st_qk hs, rfl⟩) ea_nil)) ⟨(ixG (rowL walk (itF walk i0 (dl place.toNat))) (((x1).2 : Int) + (1 : Int))), (1 - ((x1).1)), rfl, by rw [row_at (by omega)]; exact (it_qk h0 (by omega) _).qb (by decide), by exact (rt_qk hs).qb (by decide), rfl⟩) ea_nil)) ⟨(ixG (rowL walk (furF walk (itF walk i0 (dl place.toNat)) i1)) ((x1).2 : Int)), (((ixG (rowL walk (itF walk i0 (dl place.toNat))) (((x1).2 : Int) + (1 : Int)))) * ((1 - ((x1).1)))), rfl, by rw [row_at (by omega)]; exact (fur_qk h0 (by omega) (by omega) _).qb (by decide), by rw [row_at (by omega)]; exact (Qk_mul (it_qk h0 (by omega) _) (rt_qk hs)).qb (by decide), rfl⟩) (ed_var rfl) ⟨_, _, rfl⟩ rfl (by simp only [List.length_set, rowL_len]; omega) (s_le (ρ1 := [.da ((eT eQ) walk), .da (PyData.int place), .da (PyData.int steps), .da (PyData.int (((walk).length : Int) + (2 : Int))), .da ((eL eQ) (rowL walk (itF walk i0 (dl place.toNat)))), .da (PyData.int ((x1).2 : Int)), .da (PyData.int (x0 : Int)), .mu true p_further4 (.lst (((rowL walk (furF walk (itF walk i0 (dl place.toNat)) i1)).set (((x1).2 : Int)).toNat (((ixG (rowL walk (furF walk (itF walk i0 (dl place.toNat)) i1)) ((x1).2 : Int))) + ((((ixG (rowL walk (itF walk i0 (dl place.toNat))) (((x1).2 : Int) + (1 : Int)))) * ((1 - ((x1).1))))))).map eQ)), .da (eQ (x1).1)]) (le_same (le_same (le_same (le_same (le_same (le_same (le_same (le_mu (congrArg MO.lst (by simp)) (le_same le_nil))))))))) ?_))
        refine (s_setLX (f := eQ) (xs := ((rowL walk (furF walk (itF walk i0 (dl place.toNat)) i1)).set (((x1).2 : Int)).toNat (((ixG (rowL walk (furF walk (itF walk i0 (dl place.toNat)) i1)) ((x1).2 : Int))) + ((((ixG (rowL walk (itF walk i0 (dl place.toNat))) (((x1).2 : Int) + (1 : Int)))) * ((1 - ((x1).1)))))))) (x := (((ixG ((rowL walk (furF walk (itF walk i0 (dl place.toNat)) i1)).set (((x1).2 : Int)).toNat (((ixG (rowL walk (furF walk (itF walk i0 (dl place.toNat)) i1)) ((x1).2 : Int))) + ((((ixG (rowL walk (itF walk i0 (dl place.toNat))) (((x1).2 : Int) + (1 : Int)))) * ((1 - ((x1).1))))))) (((x1).2 : Int) + (2 : Int)))) + ((((ixG (rowL walk (itF walk i0 (dl place.toNat))) (((x1).2 : Int) + (1 : Int)))) * ((x1).1))))) (ed_call (ds := [(eQ (ixG ((rowL walk (furF walk (itF walk i0 (dl place.toNat)) i1)).set (((x1).2 : Int)).toNat (((ixG (rowL walk (furF walk (itF walk i0 (dl place.toNat)) i1)) ((x1).2 : Int))) + ((((ixG (rowL walk (itF walk i0 (dl place.toNat))) (((x1).2 : Int) + (1 : Int)))) * ((1 - ((x1).1))))))) (((x1).2 : Int) + (2 : Int)))), (eQ (((ixG (rowL walk (itF walk i0 (dl place.toNat))) (((x1).2 : Int) + (1 : Int)))) * ((x1).1)))]) (ea_cons (ed_ixMX (f := eQ) (xs := ((rowL walk (furF walk (itF walk i0 (dl place.toNat)) i1)).set (((x1).2 : Int)).toNat (((ixG (rowL walk (furF walk (itF walk i0 (dl place.toNat)) i1)) ((x1).2 : Int))) + ((((ixG (rowL walk (itF walk i0 (dl place.toNat))) (((x1).2 : Int) + (1 : Int)))) * ((1 - ((x1).1)))))))) (ed_I0 (ed_var rfl) ed_int) rfl ⟨_, _, rfl⟩ (by simp only [List.length_set, rowL_len]; exact ⟨by omega, by omega⟩)) (ea_cons (ed_call (ds := [(eQ (ixG (rowL walk (itF walk i0 (dl place.toNat))) (((x1).2 : Int) + (1 : Int)))), (eQ (x1).1)]) (ea_cons (ed_ixLX (f := eQ) (l := (rowL walk (itF walk i0 (dl place.toNat)))) (ed_var rfl) (ed_I0 (ed_var rfl) ed_int) (by simp only [List.length_set, rowL_len]; exact ⟨by omega, by omega⟩)) (ea_cons (ed_var rfl) ea_nil)) ⟨(ixG (rowL walk (itF walk i0 (dl place.toNat))) (((x1).2 : Int) + (1 : Int))), (x1).1, rfl, by rw [row_at (by omega)]; exact (it_qk h0 (by omega) _).qb (by decide), by exact (st_qk hs).qb (by decide), rfl⟩) ea_nil)) ⟨(ixG ((rowL walk (furF walk (itF walk i0 (dl place.toNat)) i1)).set (((x1).2 : Int)).toNat (((ixG (rowL walk (furF walk (itF walk i0 (dl place.toNat)) i1)) ((x1).2 : Int))) + ((((ixG (rowL walk (itF walk i0 (dl place.toNat))) (((x1).2 : Int) + (1 : Int)))) * ((1 - ((x1).1))))))) (((x1).2 : Int) + (2 : Int))), (((ixG (rowL walk (itF walk i0 (dl place.toNat))) (((x1).2 : Int) + (1 : Int)))) * ((x1).1)), rfl, by rw [row_set, row_at (by omega), if_neg (by omega)]; exact (fur_qk h0 (by omega) (by omega) _).qb (by decide), by rw [row_at (by omega)]; exact (Qk_mul (it_qk h0 (by omega) _) (st_qk hs)).qb (by decide), rfl⟩) (ed_I0 (ed_var rfl) ed_int) ⟨_, _, rfl⟩ rfl (by simp only [List.length_set, rowL_len]; omega) (s_le (ρ1 := [.da ((eT eQ) walk), .da (PyData.int place), .da (PyData.int steps), .da (PyData.int (((walk).length : Int) + (2 : Int))), .da ((eL eQ) (rowL walk (itF walk i0 (dl place.toNat)))), .da (PyData.int ((x1).2 : Int)), .da (PyData.int (x0 : Int)), .mu true p_further4 (.lst ((((rowL walk (furF walk (itF walk i0 (dl place.toNat)) i1)).set (((x1).2 : Int)).toNat (((ixG (rowL walk (furF walk (itF walk i0 (dl place.toNat)) i1)) ((x1).2 : Int))) + ((((ixG (rowL walk (itF walk i0 (dl place.toNat))) (((x1).2 : Int) + (1 : Int)))) * ((1 - ((x1).1))))))).set ((((x1).2 : Int) + (2 : Int))).toNat (((ixG ((rowL walk (furF walk (itF walk i0 (dl place.toNat)) i1)).set (((x1).2 : Int)).toNat (((ixG (rowL walk (furF walk (itF walk i0 (dl place.toNat)) i1)) ((x1).2 : Int))) + ((((ixG (rowL walk (itF walk i0 (dl place.toNat))) (((x1).2 : Int) + (1 : Int)))) * ((1 - ((x1).1))))))) (((x1).2 : Int) + (2 : Int)))) + ((((ixG (rowL walk (itF walk i0 (dl place.toNat))) (((x1).2 : Int) + (1 : Int)))) * ((x1).1))))).map eQ)), .da (eQ (x1).1)]) (le_same (le_same (le_same (le_same (le_same (le_same (le_same (le_mu (congrArg MO.lst (by simp)) (le_same le_nil))))))))) ?_))
        exact s_end (le_same (le_same (le_same (le_same (le_same (le_no (le_same (le_mu (congrArg MO.lst (by exact congrArg (List.map eQ) (fur_step hx1))) (le_no le_nil)))))))))
      refine s_le (ρ1 := [.da ((eT eQ) walk), .da (PyData.int place), .da (PyData.int steps), .da (PyData.int (((walk).length : Int) + (2 : Int))), .da ((eL eQ) (rowL walk (itF walk i0 (dl place.toNat)))), .no, .da (PyData.int (x0 : Int)), .da ((eL eQ) (rowL walk (furF walk (itF walk i0 (dl place.toNat)) ((walk).zipIdx).length))), .no]) (le_same (le_same (le_same (le_same (le_same (le_no (le_same (le_frz (le_no le_nil))))))))) ?_
      refine (s_asg (ed_var rfl) (s_le (ρ1 := [.da ((eT eQ) walk), .da (PyData.int place), .da (PyData.int steps), .da (PyData.int (((walk).length : Int) + (2 : Int))), .da ((eL eQ) (rowL walk (furF walk (itF walk i0 (dl place.toNat)) ((walk).zipIdx).length))), .no, .da (PyData.int (x0 : Int)), .da ((eL eQ) (rowL walk (furF walk (itF walk i0 (dl place.toNat)) ((walk).zipIdx).length))), .no]) (le_rfl rfl) ?_))
      exact s_end (le_same (le_same (le_same (le_same (le_da (by rw [List.length_zipIdx]; rfl) (le_no (le_no (le_no (le_no le_nil)))))))))
    exact s_ret (ed_is (ed_tupleL (ed_var rfl)) (by rw [List.length_range]; rfl : ((eT eQ) (rowL walk (itF walk ((List.range (steps).toNat)).length (dl place.toNat)))) = ((eT eQ) (behF walk place.toNat steps.toNat)))) hR

/-! ### _law_q -/
abbrev s_law_q : Stmt := topS 34
abbrev N_law_q : List Str := ["up", "down", "one", "other"]
theorem sc_law_q : FnScope N_law_q ["up", "down"] (defScope s_law_q) := ⟨rfl, rfl, rfl, by decide +kernel, rfl, by decide +kernel, by decide +kernel⟩
def R_law_q : List PyData → PyData → Prop := fun ds d => ∃ (up : Int) (down : Int), ds = [(PyData.int up), (PyData.int down)] ∧ (down ≠ 0) ∧ (down.natAbs < 2 ^ 8999) ∧ d = (eQ (Rat.divInt up down))
set_option maxHeartbeats 4000000 in
theorem ok_law_q {P : Program} {w : World} {K : PySem.W.Frag} {mg : Str → Option Value} {base : Heap} (B : Gb K mg) (F : Fd K mg "_law_q" s_law_q) : Cl P w K mg base 1 "_law_q" ["up", "down"] (SpP K R_law_q) := by
  have BG := B
  obtain ⟨f, fd, F, hm⟩ := F.ex
  refine ⟨f, fd, fnG_of (k := 0) F sc_law_q (spP_len fun ds d h => ?_) (fun cdv A outer s H hr hgd => ⟨_, (pss_cons (ps_par (i := 2) (j := 3) rfl sc_law_q.nd rfl rfl (by decide) rfl rfl (pa_cons (pe_callB call_abs (by rfl) B.abs_ PyProof.Rows.boot_abs (pa_cons (pv 0) pa_nil)) (pa_cons (pe_callB call_abs (by rfl) B.abs_ PyProof.Rows.boot_abs (pa_cons (pv 1) pa_nil)) pa_nil)) rfl rfl) (pss_cons (ps_while PassesOwn.never (pt_cmpR op_gt (pv 3) pe_int (nomark _)) (pss_one (ps_par (i := 2) (j := 3) rfl sc_law_q.nd rfl rfl (by decide) rfl rfl (pa_cons (pv 3) (pa_cons (pe_op op_mod (pe_callTy call_int1 (by rfl) B.int_ PyProof.Rows.boot_int (pa_cons (pv 2) pa_nil)) (pe_callTy call_int1 (by rfl) B.int_ PyProof.Rows.boot_int (pa_cons (pv 3) pa_nil))) pa_nil)) rfl rfl))) (pss_one (ps_ret (pe_ifExp (pt_cmpR op_gt (pv 1) pe_int (nomark _)) (pe_tupF (pa_cons (pe_op op_fdivG (pv 0) (pv 2)) (pa_cons (pe_op op_fdivG (pv 1) (pv 2)) pa_nil))) (pe_tupF (pa_cons (pe_op op_fdivG (pe_op op_sub pe_int (pv 0)) (pv 2)) (pa_cons (pe_op op_fdivG (pe_op op_sub pe_int (pv 1)) (pv 2)) pa_nil)))))))), fun vs Q => fn_pure (N := N_law_q) (fun ds d h => ?_) (fun B S ds d h D hR hN => ?_) vs H Q E0⟩), hm, F.kp, F.binds fun _ _ _ _ _ _ us hl => match us, hl with | [_, _], _ => rfl⟩
  · obtain ⟨up, down, rfl, h0, h1, rfl⟩ := h; rfl
  · obtain ⟨up, down, rfl, h0, h1, rfl⟩ := h; simp
  · obtain ⟨up, down, rfl, h0, h1, rfl⟩ := h
    show Ss _ _ [.da (PyData.int up), .da (PyData.int down), .no, .no] _ _
    refine s_seq (s_par (ea_cons (ed_abs (ed_var rfl)) (ea_cons (ed_abs (ed_var rfl)) ea_nil)) (s_le (ρ1 := [.da (PyData.int up), .da (PyData.int down), .da (PyData.int ((up).natAbs : Int)), .da (PyData.int ((down).natAbs : Int))]) (le_rfl rfl) ?_))
    refine s_seq (s_while (α := Nat × Nat) (fun a => [.da (PyData.int up), .da (PyData.int down), .da (PyData.int (a.1 : Int)), .da (PyData.int (a.2 : Int))]) (fun a => Nat.gcd a.1 a.2 = Nat.gcd up.natAbs down.natAbs) (fun a => a.2) ((up.natAbs, down.natAbs)) (by rfl) (le_same (le_same (le_da (by rfl) (le_da (by rfl) le_nil)))) (fun a hP => ⟨_, _, (et_test (ed_B0 (ed_var rfl) ed_int)), fun hb => ?_, fun hb => ?_⟩))
    · refine (s_par (ea_cons (ed_var rfl) (ea_cons (ed_I (ed_intI (ed_var rfl)) (ed_intI (ed_var rfl)) (by have := of_decide_eq_true hb; omega)) ea_nil)) (s_le (ρ1 := [.da (PyData.int up), .da (PyData.int down), .da (PyData.int (a.2 : Int)), .da (PyData.int ((a.1 : Int) % (a.2 : Int)))]) (le_rfl rfl) ?_))
      exact s_endW ((a.2, a.1 % a.2)) (by exact (gcd_turn a.1 a.2).trans hP) (by have := of_decide_eq_true hb; exact Nat.mod_lt _ (by omega)) (le_same (le_same (le_da (by rfl) (le_da (by rfl) le_nil))))
    · exact s_ret (ed_is (ed_ite (e := eQ) (et_test (ed_B0 (ed_var rfl) ed_int)) (fun hb1 => (ed_is (ed_tup (ds := [(PyData.int (up / (a.1 : Int))), (PyData.int (down / (a.1 : Int)))]) (ea_cons (ed_I (ed_var rfl) (ed_var rfl) (by exact lawq_div h0 h1 hP hb)) (ea_cons (ed_I (ed_var rfl) (ed_var rfl) (by exact lawq_div h0 h1 hP hb)) ea_nil))) (by exact lawq_pos hP hb (by assumption) : _ = (eQ (Rat.divInt up down))))) (fun hb1 => (ed_is (ed_tup (ds := [(PyData.int (((0 : Int) - up) / (a.1 : Int))), (PyData.int (((0 : Int) - down) / (a.1 : Int)))]) (ea_cons (ed_I (ed_I0 ed_int (ed_var rfl)) (ed_var rfl) (by exact lawq_div h0 h1 hP hb)) (ea_cons (ed_I (ed_I0 ed_int (ed_var rfl)) (ed_var rfl) (by exact lawq_div h0 h1 hP hb)) ea_nil))) (by exact lawq_neg hP hb h0 (by assumption) : _ = (eQ (Rat.divInt up down)))))) (by rw [ite_self] : (eQ (if (decide ((0 : Int) < down)) = true then (Rat.divInt up down) else (Rat.divInt up down))) = (eQ (Rat.divInt up down)))) hR

/-! ### _law_add -/
abbrev s_law_add : Stmt := topS 35
abbrev N_law_add : List Str := ["one", "other"]
theorem sc_law_add : FnScope N_law_add ["one", "other"] (defScope s_law_add) := ⟨rfl, rfl, rfl, by decide +kernel, rfl, by decide +kernel, by decide +kernel⟩
def R_law_add : List PyData → PyData → Prop := fun ds d => ∃ (one : (Int × Int)) (other : (Int × Int)), ds = [((eP PyData.int PyData.int) one), ((eP PyData.int PyData.int) other)] ∧ (Pb one) ∧ (Pb other) ∧ d = (eQ (qv one + qv other))
set_option maxHeartbeats 4000000 in
theorem ok_law_add {P : Program} {w : World} {K : PySem.W.Frag} {mg : Str → Option Value} {base : Heap} (B : Gb K mg) (F : Fd K mg "_law_add" s_law_add) (C_law_q : Cl P w K mg base 1 "_law_q" ["up", "down"] (SpP K R_law_q)) : Cl P w K mg base 2 "_law_add" ["one", "other"] (SpP K R_law_add) := by
  have BG := B
  obtain ⟨f, fd, F, hm⟩ := F.ex
  refine ⟨f, fd, fnG_of (k := 1) F sc_law_add (spP_len fun ds d h => ?_) (fun cdv A outer s H hr hgd => ⟨_, (pss_one (ps_ret (pe_cl C_law_q (hr.mono (by decide)) hgd (by rfl) (pa_cons (pe_op op_add (pe_op op_mulG (pe_ix (r := rIxT K) ix_tup (pv 0) pe_int (fun _ _ => rfl)) (pe_ix (r := rIxT K) ix_tup (pv 1) pe_int (fun _ _ => rfl))) (pe_op op_mulG (pe_ix (r := rIxT K) ix_tup (pv 1) pe_int (fun _ _ => rfl)) (pe_ix (r := rIxT K) ix_tup (pv 0) pe_int (fun _ _ => rfl)))) (pa_cons (pe_op op_mulG (pe_ix (r := rIxT K) ix_tup (pv 0) pe_int (fun _ _ => rfl)) (pe_ix (r := rIxT K) ix_tup (pv 1) pe_int (fun _ _ => rfl))) pa_nil))))), fun vs Q => fn_pure (N := N_law_add) (fun ds d h => ?_) (fun B S ds d h D hR hN => ?_) vs H Q E0⟩), hm, F.kp, F.binds fun _ _ _ _ _ _ us hl => match us, hl with | [_, _], _ => rfl⟩
  · obtain ⟨one, other, rfl, h0, h1, rfl⟩ := h; rfl
  · obtain ⟨one, other, rfl, h0, h1, rfl⟩ := h; simp
  · obtain ⟨one, other, rfl, h0, h1, rfl⟩ := h
    show Ss _ _ [.da ((eP PyData.int PyData.int) one), .da ((eP PyData.int PyData.int) other)] _ _
    exact s_ret (ed_is (ed_call (ds := [(PyData.int (((one).1 * (other).2) + ((other).1 * (one).2))), (PyData.int ((one).2 * (other).2))]) (ea_cons (ed_I0 (ed_I (ed_ixT (ed_var rfl) ed_int rfl) (ed_ixT (ed_var rfl) ed_int rfl) (by first | exact mul_b h0.1 h1.2.2 | exact mul_b h1.1 h0.2.2 | exact mul_b h0.2.2 h1.2.2)) (ed_I (ed_ixT (ed_var rfl) ed_int rfl) (ed_ixT (ed_var rfl) ed_int rfl) (by first | exact mul_b h0.1 h1.2.2 | exact mul_b h1.1 h0.2.2 | exact mul_b h0.2.2 h1.2.2))) (ea_cons (ed_I (ed_ixT (ed_var rfl) ed_int rfl) (ed_ixT (ed_var rfl) ed_int rfl) (by first | exact mul_b h0.1 h1.2.2 | exact mul_b h1.1 h0.2.2 | exact mul_b h0.2.2 h1.2.2)) ea_nil)) ⟨(((one).1 * (other).2) + ((other).1 * (one).2)), ((one).2 * (other).2), rfl, by exact Int.mul_ne_zero h0.2.1 h1.2.1, by exact pb_den h0 h1, rfl⟩) (by exact congrArg eQ (pb_add h0 h1).symm : (eQ (Rat.divInt ((((one).1 * (other).2) + ((other).1 * (one).2))) (((one).2 * (other).2)))) = (eQ (qv one + qv other)))) hR

/-! ### _law_mul -/
abbrev s_law_mul : Stmt := topS 36
abbrev N_law_mul : List Str := ["one", "other"]
theorem sc_law_mul : FnScope N_law_mul ["one", "other"] (defScope s_law_mul) := ⟨rfl, rfl, rfl, by decide +kernel, rfl, by decide +kernel, by decide +kernel⟩
def R_law_mul : List PyData → PyData → Prop := fun ds d => ∃ (one : (Int × Int)) (other : (Int × Int)), ds = [((eP PyData.int PyData.int) one), ((eP PyData.int PyData.int) other)] ∧ (Pb one) ∧ (Pb other) ∧ d = (eQ (qv one * qv other))
set_option maxHeartbeats 4000000 in
theorem ok_law_mul {P : Program} {w : World} {K : PySem.W.Frag} {mg : Str → Option Value} {base : Heap} (B : Gb K mg) (F : Fd K mg "_law_mul" s_law_mul) (C_law_q : Cl P w K mg base 1 "_law_q" ["up", "down"] (SpP K R_law_q)) : Cl P w K mg base 2 "_law_mul" ["one", "other"] (SpP K R_law_mul) := by
  have BG := B
  obtain ⟨f, fd, F, hm⟩ := F.ex
  refine ⟨f, fd, fnG_of (k := 1) F sc_law_mul (spP_len fun ds d h => ?_) (fun cdv A outer s H hr hgd => ⟨_, (pss_one (ps_ret (pe_cl C_law_q (hr.mono (by decide)) hgd (by rfl) (pa_cons (pe_op op_mulG (pe_ix (r := rIxT K) ix_tup (pv 0) pe_int (fun _ _ => rfl)) (pe_ix (r := rIxT K) ix_tup (pv 1) pe_int (fun _ _ => rfl))) (pa_cons (pe_op op_mulG (pe_ix (r := rIxT K) ix_tup (pv 0) pe_int (fun _ _ => rfl)) (pe_ix (r := rIxT K) ix_tup (pv 1) pe_int (fun _ _ => rfl))) pa_nil))))), fun vs Q => fn_pure (N := N_law_mul) (fun ds d h => ?_) (fun B S ds d h D hR hN => ?_) vs H Q E0⟩), hm, F.kp, F.binds fun _ _ _ _ _ _ us hl => match us, hl with | [_, _], _ => rfl⟩
  · obtain ⟨one, other, rfl, h0, h1, rfl⟩ := h; rfl
  · obtain ⟨one, other, rfl, h0, h1, rfl⟩ := h; simp
  · obtain ⟨one, other, rfl, h0, h1, rfl⟩ := h
    show Ss _ _ [.da ((eP PyData.int PyData.int) one), .da ((eP PyData.int PyData.int) other)] _ _
    exact s_ret (ed_is (ed_call (ds := [(PyData.int ((one).1 * (other).1)), (PyData.int ((one).2 * (other).2))]) (ea_cons (ed_I (ed_ixT (ed_var rfl) ed_int rfl) (ed_ixT (ed_var rfl) ed_int rfl) (by first | exact mul_b h0.1 h1.1 | exact mul_b h0.2.2 h1.2.2)) (ea_cons (ed_I (ed_ixT (ed_var rfl) ed_int rfl) (ed_ixT (ed_var rfl) ed_int rfl) (by first | exact mul_b h0.1 h1.1 | exact mul_b h0.2.2 h1.2.2)) ea_nil)) ⟨((one).1 * (other).1), ((one).2 * (other).2), rfl, by exact Int.mul_ne_zero h0.2.1 h1.2.1, by exact pb_den h0 h1, rfl⟩) (by exact congrArg eQ (pb_mul _ _).symm : (eQ (Rat.divInt (((one).1 * (other).1)) (((one).2 * (other).2)))) = (eQ (qv one * qv other)))) hR

/-! ### _law_sum -/
abbrev s_law_sum : Stmt := topS 37
abbrev N_law_sum : List Str := ["rows", "total", "row"]
theorem sc_law_sum : FnScope N_law_sum ["rows"] (defScope s_law_sum) := ⟨rfl, rfl, rfl, by decide +kernel, rfl, by decide +kernel, by decide +kernel⟩
def R_law_sum : List PyData → PyData → Prop := fun ds d => ∃ (rows : (Bool × List Rat)), ds = [((eS eQ) rows)] ∧ (∃ M D, (∀ r ∈ rows.2, Bd M D r) ∧ (rows.2.length + 1) * M < 2 ^ 4400 ∧ 0 < D ∧ D < 2 ^ 4400) ∧ d = (eQ (rows.2.sum))
set_option maxHeartbeats 4000000 in
theorem ok_law_sum {P : Program} {w : World} {K : PySem.W.Frag} {mg : Str → Option Value} {base : Heap} (B : Gb K mg) (F : Fd K mg "_law_sum" s_law_sum) (C_law_add : Cl P w K mg base 2 "_law_add" ["one", "other"] (SpP K R_law_add)) : Cl P w K mg base 3 "_law_sum" ["rows"] (SpP K R_law_sum) := by
  have BG := B
  obtain ⟨f, fd, F, hm⟩ := F.ex
  refine ⟨f, fd, fnG_of (k := 2) F sc_law_sum (spP_len fun ds d h => ?_) (fun cdv A outer s H hr hgd => ⟨_, (pss_cons (ps_set (i := 1) sc_law_sum.nd rfl (Or.inl rfl) (pe_tupF (pa_cons pe_int (pa_cons pe_int pa_nil)))) (pss_cons (ps_for PassesOwn.never rfl (pi_seq (pv 0)) (pg_name (i := 2) sc_law_sum.nd rfl (Or.inl rfl)) (pss_one (ps_set (i := 1) sc_law_sum.nd rfl (Or.inl rfl) (pe_cl C_law_add (hr.mono (by decide)) hgd (by rfl) (pa_cons (pv 1) (pa_cons (pv 2) pa_nil)))))) (pss_one (ps_ret (pv 1))))), fun vs Q => fn_pure (N := N_law_sum) (fun ds d h => ?_) (fun B S ds d h D hR hN => ?_) vs H Q E0⟩), hm, F.kp, F.binds fun _ _ _ _ _ _ us hl => match us, hl with | [_], _ => rfl⟩
  · obtain ⟨rows, rfl, h0, rfl⟩ := h; rfl
  · obtain ⟨rows, rfl, h0, rfl⟩ := h; simp
  · obtain ⟨rows, rfl, h0, rfl⟩ := h
    show Ss _ _ [.da ((eS eQ) rows), .no, .no] _ _
    refine s_seq (s_asg (ed_is (d1 := eQ (0 : Rat)) (ed_tup (ds := [PyData.int (0 : Int), PyData.int (1 : Int)]) (ea_cons ed_int (ea_cons ed_int ea_nil))) (by rfl)) (s_le (ρ1 := [.da ((eS eQ) rows), .da (eQ (0 : Rat)), .no]) (le_rfl rfl) ?_))
    refine s_seq (s_forX ((rows).2) (fun x => Itm.hard (eQ x)) (ei_seqX (ed_var rfl)) (fun i0 => [.da ((eS eQ) rows), .da (eQ (((rows).2.take (i0)).sum)), .no]) (le_same (le_da (by rfl) (le_no le_nil))) (fun T0 hT0 i0 x0 hx0 => ⟨_, [2], (eg_name (by simp)), ?_⟩) ?_)
    · show Ss _ _ [.da ((eS eQ) rows), .da (eQ (((rows).2.take (i0)).sum)), .da (eQ x0)] _ _
      refine (s_asg (ed_is (ed_call (ds := [((eP PyData.int PyData.int) (qp (((rows).2.take (i0)).sum))), ((eP PyData.int PyData.int) (qp x0))]) (ea_cons (ed_is (ed_var rfl) (rfl : _ = ((eP PyData.int PyData.int) (qp (((rows).2.take (i0)).sum))))) (ea_cons (ed_is (ed_var rfl) (rfl : _ = ((eP PyData.int PyData.int) (qp x0)))) ea_nil)) ⟨(qp (((rows).2.take (i0)).sum)), (qp x0), rfl, by exact (sum_qb h0 i0 hx0).1.pb, by exact (sum_qb h0 i0 hx0).2.pb, rfl⟩) (by simp only [qv_qp] : _ = (eQ ((((rows).2.take (i0)).sum) + x0)))) (s_le (ρ1 := [.da ((eS eQ) rows), .da (eQ ((((rows).2.take (i0)).sum) + x0)), .da (eQ x0)]) (le_rfl rfl) ?_))
      exact s_end (le_same (le_da (by rw [sumQ_step hx0]) (le_no le_nil)))
    exact s_ret (ed_is (ed_var rfl) (by rw [List.take_length] : (eQ (((rows).2.take (((rows).2).length)).sum)) = (eQ (rows.2.sum)))) hR

/-! ### _law_same -/
abbrev s_law_same : Stmt := topS 33
abbrev N_law_same : List Str := ["actual", "due"]
theorem sc_law_same : FnScope N_law_same ["actual", "due"] (defScope s_law_same) := ⟨rfl, rfl, rfl, by decide +kernel, rfl, by decide +kernel, by decide +kernel⟩
def R_law_same : List PyData → PyData → Prop := fun ds d => ∃ (actual : PyData) (due : PyData), ds = [actual, due] ∧ (actual = due) ∧ (Gd 20 15000000 actual) ∧ d = (PyData.bool (true))
set_option maxHeartbeats 4000000 in
theorem ok_law_same {P : Program} {w : World} {K : PySem.W.Frag} {mg : Str → Option Value} {base : Heap} (B : Gb K mg) (F : Fd K mg "_law_same" s_law_same) : Cl P w K mg base 1 "_law_same" ["actual", "due"] (SpP K R_law_same) := by
  have BG := B
  obtain ⟨f, fd, F, hm⟩ := F.ex
  refine ⟨f, fd, fnG_of (k := 0) F sc_law_same (spP_len fun ds d h => ?_) (fun cdv A outer s H hr hgd => ⟨_, (pss_one (ps_ret (pe_and (pe_cmpR (r := rEqD K) (op_eqD hr.units) (pv 0) (pv 1) (nomark _)) (pe_one (pe_cmpR op_eq (pe_callB (r := rRepr K) (call_repr hgd (Nat.lt_of_le_of_lt (Nat.add_le_add_left (by decide : 61 ≤ 64) _) hr.units)) (by rfl) B.repr_ (by decide +kernel) (pa_cons (pv 0) pa_nil)) (pe_callB (r := rRepr K) (call_repr hgd (Nat.lt_of_le_of_lt (Nat.add_le_add_left (by decide : 61 ≤ 64) _) hr.units)) (by rfl) B.repr_ (by decide +kernel) (pa_cons (pv 1) pa_nil)) (nomark _)))))), fun vs Q => fn_pure (N := N_law_same) (fun ds d h => ?_) (fun B S ds d h D hR hN => ?_) vs H Q E0⟩), hm, F.kp, F.binds fun _ _ _ _ _ _ us hl => match us, hl with | [_, _], _ => rfl⟩
  · obtain ⟨actual, due, rfl, h0, h1, rfl⟩ := h; rfl
  · obtain ⟨actual, due, rfl, h0, h1, rfl⟩ := h; simp
  · obtain ⟨actual, due, rfl, h0, h1, rfl⟩ := h
    show Ss _ _ [.da actual, .da due] _ _
    exact s_ret (ed_is (ed_and (ed_eq (ed_var rfl) (ed_var rfl) (by exact gd_shaped h1) (by exact gd_shaped (h0 ▸ h1))) (fun hb1 => (ed_eqS (ed_repr (ed_var rfl) (by exact gd_show h1)) (ed_repr (ed_var rfl) (by exact gd_show (h0 ▸ h1)))))) (by exact same_ret h0 h1 : (PyData.bool ((PyData.eqv actual due) && (decide ((PyData.shown actual) = (PyData.shown due))))) = (PyData.bool (true)))) hR

/-! ### _law_walk -/
abbrev s_law_walk : Stmt := topS 38
abbrev N_law_walk : List Str := ["state", "many", "top", "found", "k", "down"]
theorem sc_law_walk : FnScope N_law_walk ["state", "many"] (defScope s_law_walk) := ⟨rfl, rfl, rfl, by decide +kernel, rfl, by decide +kernel, by decide +kernel⟩
def R_law_walk : List PyData → (PyData → Prop) → Prop := fun ds Φ => ∃ (many : Int), ds = [(PyData.int many)] ∧ (1 ≤ many ∧ many ≤ 30) ∧ ∀ z : (List Rat), WkOk z → Φ ((eT eQ) z)
set_option maxHeartbeats 4000000 in
theorem ok_law_walk {P : Program} {w : World} {K : PySem.W.Frag} {mg : Str → Option Value} {base : Heap} (B : Gb K mg) (F : Fd K mg "_law_walk" s_law_walk) (C_law_draw : Cl P w K mg base 1 "_law_draw" ["state", "many"] (SpW K R_draw)) (C_law_pick : Cl P w K mg base 2 "_law_pick" ["state", "some"] (SpW K R_pick)) (C_law_q : Cl P w K mg base 1 "_law_q" ["up", "down"] (SpP K R_law_q)) : Cl P w K mg base 3 "_law_walk" ["state", "many"] (SpW K R_law_walk) := by
  have BG := B
  obtain ⟨f, fd, F, hm⟩ := F.ex
  refine ⟨f, fd, fnG_of (k := 2) F sc_law_walk (spW_len fun ds d h => ?_) (fun cdv A outer s H hr hgd => ⟨_, (pss_cons (ps_set (i := 2) sc_law_walk.nd rfl (Or.inl rfl) (pe_cl C_law_pick (hr.mono (by decide)) hgd (by rfl) (pa_cons (pv 0) (pa_cons (pe_lst (pa_cons pe_int (pa_cons pe_int (pa_cons pe_int pa_nil)))) pa_nil)))) (pss_cons (ps_set (i := 3) sc_law_walk.nd rfl (Or.inl rfl) (pe_lst pa_nil)) (pss_cons (ps_for PassesOwn.never rfl (pi_range1 (by rfl) B.range_ (pa_cons (pv 1) pa_nil)) (pg_name (i := 4) sc_law_walk.nd rfl (Or.inl rfl)) (pss_cons (ps_set (i := 5) sc_law_walk.nd rfl (Or.inl rfl) (pe_op op_add pe_int (pe_cl C_law_draw (hr.mono (by decide)) hgd (by rfl) (pa_cons (pv 0) (pa_cons (pv 2) pa_nil))))) (pss_one (ps_expr (pe_bm PySem.F.plainAttrs_list PySem.F.slot_list_append PySem.F.type_list_append mt_append (pv 3) (pa_cons (pe_cl C_law_q (hr.mono (by decide)) hgd (by rfl) (pa_cons (pe_op op_add pe_int (pe_cl C_law_draw (hr.mono (by decide)) hgd (by rfl) (pa_cons (pv 0) (pa_cons (pe_op op_sub (pv 5) pe_int) pa_nil)))) (pa_cons (pv 5) pa_nil))) pa_nil)))))) (pss_one (ps_ret (pe_callTy (r := rTupOf K) call_tupleF (by rfl) B.tuple_ PyProof.Rows.boot_tuple (pa_cons (pv 3) pa_nil))))))), fun vs Q => fn_draws (N := N_law_walk) (fun ds d h => ?_) (fun B S a ds Φ h D hR => ?_) vs H Q E0⟩), hm, F.kp, F.binds fun _ _ _ _ _ _ us hl => match us, hl with | [_, _], _ => rfl⟩
  · obtain ⟨many, rfl, h0, hΦ⟩ := h; rfl
  · obtain ⟨many, rfl, h0, hΦ⟩ := h; simp
  · obtain ⟨many, rfl, h0, hΦ⟩ := h
    show Ss _ _ [.mu false a (.any StOk), .da (PyData.int many), .no, .no, .no, .no] _ _
    refine s_seq (s_asgW (ew_pickLD (i := 0) (ed_L (el_lst (ds := [(2 : Int), (9 : Int), (30 : Int)].map PyData.int) (ea_cons ed_int (ea_cons ed_int (ea_cons ed_int ea_nil))))) rfl rfl (by simp)) (fun top_v h_top_v => s_le (ρ1 := [.mu false a (.any StOk), .da (PyData.int many), .da (PyData.int top_v), .no, .no, .no]) (le_rfl rfl) ?_))
    try dsimp only at h_top_v
    have ht : top_v = 2 ∨ top_v = 9 ∨ top_v = 30 := by simpa using h_top_v
    refine s_seq (s_asgM (ds := ([]).map eQ) (el_lst (ds := [].map eQ) ea_nil) (fun p_found1 => s_le (ρ1 := [.mu false a (.any StOk), .da (PyData.int many), .da (PyData.int top_v), .mu true p_found1 (.lst ([].map eQ)), .no, .no]) (le_rfl rfl) ?_))
    refine s_seq (s_forN (β := List Rat) ((List.range (many).toNat)) (fun (i : Nat) => Itm.hard (PyData.int (i : Int))) (ei_rng (ed_var rfl) (by omega)) (fun i0 b0 => b0.length = i0 ∧ ∀ c ∈ b0, SpOk c) (fun i0 b0 => [.mu false a (.any StOk), .da (PyData.int many), .da (PyData.int top_v), .mu true p_found1 (.lst (b0.map eQ)), .no, .no]) ([]) (by exact ⟨rfl, fun l h => nomatch h⟩) (le_same (le_same (le_same (le_same (le_no (le_no le_nil)))))) (fun T0 hT0 i0 x0 b0 hx0 hP0 => ⟨_, [4], (eg_name (by simp)), ?_⟩) (fun b0 hP0 => ?_))
    · show Ss _ _ [.mu false a (.any StOk), .da (PyData.int many), .da (PyData.int top_v), .mu true p_found1 (.lst (b0.map eQ)), .da (PyData.int (x0 : Int)), .no] _ _
      have hi0 := (rng_get hx0).2
      refine s_seq (s_asgW (ew_op (e := PyData.int) (F := (fun _ y3 => ((2 : Int) + y3))) (ew_det (f := PyData.int) (x := (2 : Int)) ed_int) (ew_drawD (i := 0) (ed_var rfl) rfl rfl (by omega)) (fun x2 y3 hx4 hy5 _ _ _ ha6 hb7 => by have hx4 := Eq.symm hx4; subst hx4; exact (ed_I0 ha6 hb7))) (fun down_v h_down_v => s_le (ρ1 := [.mu false a (.any StOk), .da (PyData.int many), .da (PyData.int top_v), .mu true p_found1 (.lst (b0.map eQ)), .da (PyData.int (x0 : Int)), .da (PyData.int down_v)]) (le_rfl rfl) ?_))
      try dsimp only at h_down_v
      have hdw : 2 ≤ down_v ∧ down_v ≤ 31 := by omega
      refine (s_appendW (ew_call (e := eQ) (F := (fun (x16 : Int × Int × Unit) => (Rat.divInt (x16.1) (down_v)))) (ds := fun (x16 : Int × Int × Unit) => [(PyData.int x16.1), (PyData.int x16.2.1)]) (ewa_cons (ew_op (e := PyData.int) (F := (fun _ y10 => ((1 : Int) + y10))) (ew_det (f := PyData.int) (x := (1 : Int)) ed_int) (ew_drawD (i := 0) (ed_I0 (ed_var rfl) ed_int) rfl rfl (by omega)) (fun x9 y10 hx11 hy12 _ _ _ ha13 hb14 => by have hx11 := Eq.symm hx11; subst hx11; exact (ed_I0 ha13 hb14))) (ewa_cons (ew_det (f := PyData.int) (x := down_v) (ed_var rfl)) ewa_nil)) (fun x16 hx17 => by have e1 := hx17.2.1; (try dsimp only at e1); exact ⟨x16.1, x16.2.1, rfl, by omega, by exact small_lt (by omega), by simp only [e1]⟩)) ⟨_, _, rfl⟩ rfl (by rw [List.length_map]; omega) (fun app_v h_app_v => s_le (ρ1 := [.mu false a (.any StOk), .da (PyData.int many), .da (PyData.int top_v), .mu true p_found1 (.lst ((b0 ++ [app_v]).map eQ)), .da (PyData.int (x0 : Int)), .da (PyData.int down_v)]) (le_same (le_same (le_same (le_mu (congrArg MO.lst (by simp)) (le_same (le_same le_nil)))))) ?_))
      try dsimp only at h_app_v
      have hst : SpOk app_v := by exact wk_app hdw h_app_v
      exact s_endN (b0 ++ [app_v]) (by exact wk_next hP0 hst) (le_same (le_same (le_same (le_same (le_no (le_no le_nil))))))
    · refine s_le (ρ1 := [.mu false a (.any StOk), .da (PyData.int many), .da (PyData.int top_v), .da ((eL eQ) b0), .no, .no]) (le_same (le_same (le_same (le_frz (le_no (le_no le_nil)))))) ?_
      exact s_retW (i := 0) (ew_det (f := (fun l : List Rat => PyData.tuple (l.map eQ))) (x := b0) (ed_tupleL (ed_var rfl))) rfl hR (fun x hx => by subst hx; exact hΦ _ (wk_done h0 hP0))

/-! ### _law_other -/
abbrev s_law_other : Stmt := topS 39
abbrev N_law_other : List Str := ["chance"]
theorem sc_law_other : FnScope N_law_other ["chance"] (defScope s_law_other) := ⟨rfl, rfl, rfl, by decide +kernel, rfl, by decide +kernel, by decide +kernel⟩
def R_law_other : List PyData → PyData → Prop := fun ds d => ∃ (chance : Rat), ds = [(eQ chance)] ∧ d = (eQ (1 - chance))
set_option maxHeartbeats 4000000 in
theorem ok_law_other {P : Program} {w : World} {K : PySem.W.Frag} {mg : Str → Option Value} {base : Heap} (B : Gb K mg) (F : Fd K mg "_law_other" s_law_other) : Cl P w K mg base 1 "_law_other" ["chance"] (SpP K R_law_other) := by
  have BG := B
  obtain ⟨f, fd, F, hm⟩ := F.ex
  refine ⟨f, fd, fnG_of (k := 0) F sc_law_other (spP_len fun ds d h => ?_) (fun cdv A outer s H hr hgd => ⟨_, (pss_one (ps_ret (pe_tupF (pa_cons (pe_op op_sub (pe_ix (r := rIxT K) ix_tup (pv 0) pe_int (fun _ _ => rfl)) (pe_ix (r := rIxT K) ix_tup (pv 0) pe_int (fun _ _ => rfl))) (pa_cons (pe_ix (r := rIxT K) ix_tup (pv 0) pe_int (fun _ _ => rfl)) pa_nil))))), fun vs Q => fn_pure (N := N_law_other) (fun ds d h => ?_) (fun B S ds d h D hR hN => ?_) vs H Q E0⟩), hm, F.kp, F.binds fun _ _ _ _ _ _ us hl => match us, hl with | [_], _ => rfl⟩
  · obtain ⟨chance, rfl, rfl⟩ := h; rfl
  · obtain ⟨chance, rfl, rfl⟩ := h; simp
  · obtain ⟨chance, rfl, rfl⟩ := h
    show Ss _ _ [.da (eQ chance)] _ _
    exact s_ret (ed_is (ed_is (ed_tup (ds := [(PyData.int (((chance).den : Int) - (chance).num)), (PyData.int ((chance).den : Int))]) (ea_cons (ed_I0 (ed_ixT (ed_var rfl) ed_int rfl) (ed_ixT (ed_var rfl) ed_int rfl)) (ea_cons (ed_ixT (ed_var rfl) ed_int rfl) ea_nil))) (by exact congrArg PyData.tuple (co_pair _) : _ = (eQ (1 - chance)))) (by rfl : (eQ (1 - chance)) = (eQ (1 - chance)))) hR

/-! ### _law_top -/
abbrev s_law_top : Stmt := topS 40
abbrev N_law_top : List Str := ["walk", "parts", "sums_in", "chance", "one"]
theorem sc_law_top : FnScope N_law_top ["walk"] (defScope s_law_top) := ⟨rfl, rfl, rfl, by decide +kernel, rfl, by decide +kernel, by decide +kernel⟩
def R_law_top : List PyData → PyData → Prop := fun ds d => ∃ (walk : (List Rat)), ds = [((eT eQ) walk)] ∧ (WkOk walk) ∧ d = ((eT eQ) (topsF walk))
set_option maxHeartbeats 4000000 in
theorem ok_law_top {P : Program} {w : World} {K : PySem.W.Frag} {mg : Str → Option Value} {base : Heap} (B : Gb K mg) (F : Fd K mg "_law_top" s_law_top) (C_law_add : Cl P w K mg base 2 "_law_add" ["one", "other"] (SpP K R_law_add)) (C_law_mul : Cl P w K mg base 2 "_law_mul" ["one", "other"] (SpP K R_law_mul)) : Cl P w K mg base 3 "_law_top" ["walk"] (SpP K R_law_top) := by
  have BG := B
  obtain ⟨f, fd, F, hm⟩ := F.ex
  refine ⟨f, fd, fnG_of (k := 2) F sc_law_top (spP_len fun ds d h => ?_) (fun cdv A outer s H hr hgd => ⟨_, (pss_cons (ps_asg (pe_tupF (pa_cons (pe_lst (pa_cons (pe_tupF (pa_cons pe_int (pa_cons pe_int pa_nil))) pa_nil)) (pa_cons (pe_lst (pa_cons (pe_tupF (pa_cons pe_int (pa_cons pe_int pa_nil))) (pa_cons (pe_tupF (pa_cons pe_int (pa_cons pe_int pa_nil))) pa_nil))) pa_nil))) (pg_tup rfl (pgs_cons (pg_name (i := 1) sc_law_top.nd rfl (Or.inl rfl)) (pgs_cons (pg_name (i := 2) sc_law_top.nd rfl (Or.inr rfl)) pgs_nil))) rfl) (pss_cons (ps_for PassesOwn.never rfl (pi_tup (pv 0)) (pg_name (i := 3) sc_law_top.nd rfl (Or.inl rfl)) (pss_cons (ps_expr (pe_bm PySem.F.plainAttrs_list PySem.F.slot_list_append PySem.F.type_list_append mt_append (pv 1) (pa_cons (pe_cl C_law_mul (hr.mono (by decide)) hgd (by rfl) (pa_cons (pe_ix (r := rIxL K) ix_list (pv 1) (pe_un un_neg pe_int) (fun _ _ => rfl)) (pa_cons (pe_tupF (pa_cons (pe_op op_sub (pe_ix (r := rIxT K) ix_tup (pv 3) pe_int (fun _ _ => rfl)) (pe_ix (r := rIxT K) ix_tup (pv 3) pe_int (fun _ _ => rfl))) (pa_cons (pe_ix (r := rIxT K) ix_tup (pv 3) pe_int (fun _ _ => rfl)) pa_nil))) pa_nil))) pa_nil))) (pss_one (ps_expr (pe_bm PySem.F.plainAttrs_list PySem.F.slot_list_append PySem.F.type_list_append mt_append (pv 2) (pa_cons (pe_cl C_law_add (hr.mono (by decide)) hgd (by rfl) (pa_cons (pe_ix (r := rIxL K) ix_list (pv 2) (pe_un un_neg pe_int) (fun _ _ => rfl)) (pa_cons (pe_ix (r := rIxL K) ix_list (pv 1) (pe_un un_neg pe_int) (fun _ _ => rfl)) pa_nil))) pa_nil)))))) (pss_one (ps_ret (pe_callTy (r := rTupOf K) call_tupleF (by rfl) B.tuple_ PyProof.Rows.boot_tuple (pa_cons (pe_lc (own := [("one", 4)]) (g := _) (tt := tYes) rfl sc_law_top.nd (pi_list (pv 2)) (blkOk_by (N := N_law_top) (sc := defScope s_law_top) (by decide +kernel)) (fun _ _ _ _ _ => (pg_name (i := 4) sc_law_top.nd rfl (by first | exact Or.inl rfl | exact Or.inr rfl))) (fun _ _ _ _ _ => pts_nil) (fun _ _ _ _ _ => (pe_cl C_law_mul (hr.mono (by decide)) hgd (by rfl) (pa_cons (pv 4) (pa_cons (pe_tupF (pa_cons (pe_ix (r := rIxT K) ix_tup (pe_ix (r := rIxL K) ix_list (pv 2) (pe_un un_neg pe_int) (fun _ _ => rfl)) pe_int (fun _ _ => rfl)) (pa_cons (pe_ix (r := rIxT K) ix_tup (pe_ix (r := rIxL K) ix_list (pv 2) (pe_un un_neg pe_int) (fun _ _ => rfl)) pe_int (fun _ _ => rfl)) pa_nil))) pa_nil))))) pa_nil)))))), fun vs Q => fn_pure (N := N_law_top) (fun ds d h => ?_) (fun B S ds d h D hR hN => ?_) vs H Q E0⟩), hm, F.kp, F.binds fun _ _ _ _ _ _ us hl => match us, hl with | [_], _ => rfl⟩
  · obtain ⟨walk, rfl, h0, rfl⟩ := h; rfl
  · obtain ⟨walk, rfl, h0, rfl⟩ := h; simp
  · obtain ⟨walk, rfl, h0, rfl⟩ := h
    have hw2 := h0.1.2
    show Ss _ _ [.da ((eT eQ) walk), .no, .no, .no, .no] _ _
    refine s_seq (s_asgM2 (ds := ([(1 : Rat)]).map eQ) (es := ([(0 : Rat), (1 : Rat)]).map eQ) (el_lst (ds := [(1 : Rat)].map eQ) (ea_cons (ed_is (d1 := eQ (1 : Rat)) (ed_tup (ds := [PyData.int (1 : Int), PyData.int (1 : Int)]) (ea_cons ed_int (ea_cons ed_int ea_nil))) (by rfl)) ea_nil)) (fun _ _ => (el_lst (ds := [(0 : Rat), (1 : Rat)].map eQ) (ea_cons (ed_is (d1 := eQ (0 : Rat)) (ed_tup (ds := [PyData.int (0 : Int), PyData.int (1 : Int)]) (ea_cons ed_int (ea_cons ed_int ea_nil))) (by rfl)) (ea_cons (ed_is (d1 := eQ (1 : Rat)) (ed_tup (ds := [PyData.int (1 : Int), PyData.int (1 : Int)]) (ea_cons ed_int (ea_cons ed_int ea_nil))) (by rfl)) ea_nil)))) (by decide) (fun p_parts1 p_sums_in2 => s_le (ρ1 := [.da ((eT eQ) walk), .mu true p_parts1 (.lst ([(1 : Rat)].map eQ)), .mu true p_sums_in2 (.lst ([(0 : Rat), (1 : Rat)].map eQ)), .no, .no]) (le_rfl rfl) ?_))
    refine s_seq (s_forX (walk) (fun x => Itm.hard (eQ x)) (ei_tupX (ed_var rfl)) (fun i0 => [.da ((eT eQ) walk), .mu true p_parts1 (.lst (((List.range (i0 + 1)).map (gapF walk)).map eQ)), .mu true p_sums_in2 (.lst (((List.range (i0 + 2)).map (hgtF walk)).map eQ)), .no, .no]) (le_same (le_mu (congrArg MO.lst (by rfl)) (le_mu (congrArg MO.lst (by exact congrArg (List.map eQ) (hgt_two _))) (le_no (le_no le_nil))))) (fun T0 hT0 i0 x0 hx0 => ⟨_, [3], (eg_name (by simp)), ?_⟩) ?_)
    · show Ss _ _ [.da ((eT eQ) walk), .mu true p_parts1 (.lst (((List.range (i0 + 1)).map (gapF walk)).map eQ)), .mu true p_sums_in2 (.lst (((List.range (i0 + 2)).map (hgtF walk)).map eQ)), .da (eQ x0), .no] _ _
      have hi0 := (List.getElem?_eq_some_iff.mp hx0).1
      have hs := h0.2 _ (List.mem_of_getElem? hx0)
      refine s_seq (s_append (ed_is (ed_call (ds := [((eP PyData.int PyData.int) (qp (ixG ((List.range (i0 + 1)).map (gapF walk)) (-1)))), ((eP PyData.int PyData.int) (qp ((1 - x0) / x0)))]) (ea_cons (ed_is (ed_ixMX (f := eQ) (xs := ((List.range (i0 + 1)).map (gapF walk))) (ed_neg ed_int) rfl ⟨_, _, rfl⟩ (by exact inb_neg1 (by simp))) (rfl : _ = ((eP PyData.int PyData.int) (qp (ixG ((List.range (i0 + 1)).map (gapF walk)) (-1)))))) (ea_cons (ed_is (ed_is (ed_tup (ds := [(PyData.int (((x0).den : Int) - (x0).num)), (PyData.int (x0).num)]) (ea_cons (ed_I0 (ed_ixT (ed_var rfl) ed_int rfl) (ed_ixT (ed_var rfl) ed_int rfl)) (ea_cons (ed_ixT (ed_var rfl) ed_int rfl) ea_nil))) (by exact rt_pair hs : _ = (eQ ((1 - x0) / x0)))) (rfl : _ = ((eP PyData.int PyData.int) (qp ((1 - x0) / x0))))) ea_nil)) ⟨(qp (ixG ((List.range (i0 + 1)).map (gapF walk)) (-1))), (qp ((1 - x0) / x0)), rfl, by rw [last_rng]; exact ((gap_qk h0 (by omega)).qb (by decide)).pb, by exact ((rtd_qk hs).qb (by decide)).pb, rfl⟩) (by simp only [qv_qp] : _ = (eQ ((ixG ((List.range (i0 + 1)).map (gapF walk)) (-1)) * ((1 - x0) / x0))))) ⟨_, _, rfl⟩ rfl (by simp; omega) (s_le (ρ1 := [.da ((eT eQ) walk), .mu true p_parts1 (.lst ((((List.range (i0 + 1)).map (gapF walk)) ++ [((ixG ((List.range (i0 + 1)).map (gapF walk)) (-1)) * ((1 - x0) / x0))]).map eQ)), .mu true p_sums_in2 (.lst (((List.range (i0 + 2)).map (hgtF walk)).map eQ)), .da (eQ x0), .no]) (le_same (le_mu (congrArg MO.lst (by simp)) (le_same (le_same (le_same le_nil))))) ?_))
      refine (s_append (ed_is (ed_call (ds := [((eP PyData.int PyData.int) (qp (ixG ((List.range (i0 + 2)).map (hgtF walk)) (-1)))), ((eP PyData.int PyData.int) (qp (ixG (((List.range (i0 + 1)).map (gapF walk)) ++ [((ixG ((List.range (i0 + 1)).map (gapF walk)) (-1)) * ((1 - x0) / x0))]) (-1))))]) (ea_cons (ed_is (ed_ixMX (f := eQ) (xs := ((List.range (i0 + 2)).map (hgtF walk))) (ed_neg ed_int) rfl ⟨_, _, rfl⟩ (by exact inb_neg1 (by simp))) (rfl : _ = ((eP PyData.int PyData.int) (qp (ixG ((List.range (i0 + 2)).map (hgtF walk)) (-1)))))) (ea_cons (ed_is (ed_ixMX (f := eQ) (xs := (((List.range (i0 + 1)).map (gapF walk)) ++ [((ixG ((List.range (i0 + 1)).map (gapF walk)) (-1)) * ((1 - x0) / x0))])) (ed_neg ed_int) rfl ⟨_, _, rfl⟩ (by exact inb_neg1 (by simp))) (rfl : _ = ((eP PyData.int PyData.int) (qp (ixG (((List.range (i0 + 1)).map (gapF walk)) ++ [((ixG ((List.range (i0 + 1)).map (gapF walk)) (-1)) * ((1 - x0) / x0))]) (-1)))))) ea_nil)) ⟨(qp (ixG ((List.range (i0 + 2)).map (hgtF walk)) (-1))), (qp (ixG (((List.range (i0 + 1)).map (gapF walk)) ++ [((ixG ((List.range (i0 + 1)).map (gapF walk)) (-1)) * ((1 - x0) / x0))]) (-1))), rfl, by rw [last_rng]; exact ((hgt_qk h0 (by omega)).qb (by decide)).pb, by rw [gap_step hx0, last_rng]; exact ((gap_qk h0 (by omega)).qb (by decide)).pb, rfl⟩) (by simp only [qv_qp] : _ = (eQ ((ixG ((List.range (i0 + 2)).map (hgtF walk)) (-1)) + (ixG (((List.range (i0 + 1)).map (gapF walk)) ++ [((ixG ((List.range (i0 + 1)).map (gapF walk)) (-1)) * ((1 - x0) / x0))]) (-1)))))) ⟨_, _, rfl⟩ rfl (by simp; omega) (s_le (ρ1 := [.da ((eT eQ) walk), .mu true p_parts1 (.lst ((((List.range (i0 + 1)).map (gapF walk)) ++ [((ixG ((List.range (i0 + 1)).map (gapF walk)) (-1)) * ((1 - x0) / x0))]).map eQ)), .mu true p_sums_in2 (.lst ((((List.range (i0 + 2)).map (hgtF walk)) ++ [((ixG ((List.range (i0 + 2)).map (hgtF walk)) (-1)) + (ixG (((List.range (i0 + 1)).map (gapF walk)) ++ [((ixG ((List.range (i0 + 1)).map (gapF walk)) (-1)) * ((1 - x0) / x0))]) (-1)))]).map eQ)), .da (eQ x0), .no]) (le_same (le_same (le_mu (congrArg MO.lst (by simp)) (le_same (le_same le_nil))))) ?_))
      exact s_end (le_same (le_mu (congrArg MO.lst (by exact congrArg (List.map eQ) (gap_step hx0))) (le_mu (congrArg MO.lst (by exact congrArg (List.map eQ) (sum_step hx0))) (le_no (le_no le_nil)))))
    refine s_le (ρ1 := [.da ((eT eQ) walk), .mu true p_parts1 (.lst (((List.range ((walk).length + 1)).map (gapF walk)).map eQ)), .da ((eL eQ) ((List.range ((walk).length + 2)).map (hgtF walk))), .no, .no]) (le_same (le_same (le_frz (le_no (le_no le_nil))))) ?_
    exact s_ret (ed_is (ed_tupleL (ed_L (el_lcAX (xs := ((List.range ((walk).length + 2)).map (hgtF walk))) (ea := fun x => Itm.hard (eQ x)) (enc := eQ) (fb := fun (x3 : Rat) => (x3 * qv (((((ixG ((List.range ((walk).length + 2)).map (hgtF walk)) (-1))).den : Int), ((ixG ((List.range ((walk).length + 2)).map (hgtF walk)) (-1))).num)))) (ei_listX (ed_var rfl)) (by simp; omega) (by simp) (fun _ _ x3 hx3 => ⟨_, rfl, (eg_name (by simp)), (ed_is (ed_call (ds := [((eP PyData.int PyData.int) (qp x3)), ((eP PyData.int PyData.int) ((((ixG ((List.range ((walk).length + 2)).map (hgtF walk)) (-1))).den : Int), ((ixG ((List.range ((walk).length + 2)).map (hgtF walk)) (-1))).num))]) (ea_cons (ed_is (ed_var rfl) (rfl : _ = ((eP PyData.int PyData.int) (qp x3)))) (ea_cons (ed_tup (ds := [(PyData.int (((ixG ((List.range ((walk).length + 2)).map (hgtF walk)) (-1))).den : Int)), (PyData.int (((ixG ((List.range ((walk).length + 2)).map (hgtF walk)) (-1))).num))]) (ea_cons (ed_ixT (ed_ixLX (f := eQ) (l := ((List.range ((walk).length + 2)).map (hgtF walk))) (ed_var rfl) (ed_neg ed_int) (by exact inb_neg1 (by simp))) ed_int rfl) (ea_cons (ed_ixT (ed_ixLX (f := eQ) (l := ((List.range ((walk).length + 2)).map (hgtF walk))) (ed_var rfl) (ed_neg ed_int) (by exact inb_neg1 (by simp))) ed_int rfl) ea_nil))) ea_nil)) ⟨(qp x3), ((((ixG ((List.range ((walk).length + 2)).map (hgtF walk)) (-1))).den : Int), ((ixG ((List.range ((walk).length + 2)).map (hgtF walk)) (-1))).num), rfl, by obtain ⟨k, hk, e⟩ := List.mem_map.mp (by assumption); have := List.mem_range.mp hk; rw [← e]; exact ((hgt_qk h0 (by omega)).qb (by decide)).pb, by rw [last_rng]; exact hl_pb h0, rfl⟩) (by simp only [qv_qp] : _ = (eQ (x3 * qv (((((ixG ((List.range ((walk).length + 2)).map (hgtF walk)) (-1))).den : Int), ((ixG ((List.range ((walk).length + 2)).map (hgtF walk)) (-1))).num))))))⟩)))) (by exact ltop_ret _ : ((eT eQ) ((((List.range ((walk).length + 2)).map (hgtF walk))).map fun (x3 : Rat) => (x3 * qv (((((ixG ((List.range ((walk).length + 2)).map (hgtF walk)) (-1))).den : Int), ((ixG ((List.range ((walk).length + 2)).map (hgtF walk)) (-1))).num))))) = ((eT eQ) (topsF walk)))) hR

/-! ### _law_mean -/
abbrev s_law_mean : Stmt := topS 41
abbrev N_law_mean : List Str := ["chances", "rows", "k"]
theorem sc_law_mean : FnScope N_law_mean ["chances", "rows"] (defScope s_law_mean) := ⟨rfl, rfl, rfl, by decide +kernel, rfl, by decide +kernel, by decide +kernel⟩
def R_law_mean : List PyData → PyData → Prop := fun ds d => ∃ (chances : (List Rat)) (rows : (List Rat)), ds = [((eT eQ) chances), ((eT eQ) rows)] ∧ (chances.length = rows.length ∧ rows.length ≤ 32) ∧ (MeanOk chances rows) ∧ d = (eQ (meanF chances rows))
set_option maxHeartbeats 4000000 in
theorem ok_law_mean {P : Program} {w : World} {K : PySem.W.Frag} {mg : Str → Option Value} {base : Heap} (B : Gb K mg) (F : Fd K mg "_law_mean" s_law_mean) (C_law_mul : Cl P w K mg base 2 "_law_mul" ["one", "other"] (SpP K R_law_mul)) (C_law_sum : Cl P w K mg base 3 "_law_sum" ["rows"] (SpP K R_law_sum)) : Cl P w K mg base 4 "_law_mean" ["chances", "rows"] (SpP K R_law_mean) := by
  have BG := B
  obtain ⟨f, fd, F, hm⟩ := F.ex
  refine ⟨f, fd, fnG_of (k := 3) F sc_law_mean (spP_len fun ds d h => ?_) (fun cdv A outer s H hr hgd => ⟨_, (pss_one (ps_ret (pe_cl C_law_sum (hr.mono (by decide)) hgd (by rfl) (pa_cons (pe_lc (own := [("k", 2)]) (g := _) (tt := tYes) rfl sc_law_mean.nd (pi_range1 (by rfl) B.range_ (pa_cons (pe_callB (r := rLenS K) call_len_seq (by rfl) B.len_ PySem.boot_len (pa_cons (pv 1) pa_nil)) pa_nil)) (blkOk_by (N := N_law_mean) (sc := defScope s_law_mean) (by decide +kernel)) (fun _ _ _ _ _ => (pg_name (i := 2) sc_law_mean.nd rfl (by first | exact Or.inl rfl | exact Or.inr rfl))) (fun _ _ _ _ _ => pts_nil) (fun _ _ _ _ _ => (pe_cl C_law_mul (hr.mono (by decide)) hgd (by rfl) (pa_cons (pe_ix (r := rIxT K) ix_tup (pv 0) (pv 2) (fun _ _ => rfl)) (pa_cons (pe_ix (r := rIxT K) ix_tup (pv 1) (pv 2) (fun _ _ => rfl)) pa_nil))))) pa_nil)))), fun vs Q => fn_pure (N := N_law_mean) (fun ds d h => ?_) (fun B S ds d h D hR hN => ?_) vs H Q E0⟩), hm, F.kp, F.binds fun _ _ _ _ _ _ us hl => match us, hl with | [_, _], _ => rfl⟩
  · obtain ⟨chances, rows, rfl, h0, h1, rfl⟩ := h; rfl
  · obtain ⟨chances, rows, rfl, h0, h1, rfl⟩ := h; simp
  · obtain ⟨chances, rows, rfl, h0, h1, rfl⟩ := h
    show Ss _ _ [.da ((eT eQ) chances), .da ((eT eQ) rows), .no] _ _
    exact s_ret (ed_is (ed_call (ds := [((eS eQ) (true, (((List.range (((rows).length : Int)).toNat)).map fun (x1 : Nat) => ((ixG chances (x1 : Int)) * (ixG rows (x1 : Int))))))]) (ea_cons (ed_is (ed_L (el_lcAX (xs := (List.range (((rows).length : Int)).toNat)) (ea := fun (i : Nat) => Itm.hard (PyData.int (i : Int))) (enc := eQ) (fb := fun (x1 : Nat) => ((ixG chances (x1 : Int)) * (ixG rows (x1 : Int)))) (ei_rng (ed_lenTX (ed_var rfl)) (by omega)) (by simp; omega) (by simp) (fun _ _ x1 hx1 => ⟨_, rfl, (eg_name (by simp)), (ed_is (ed_call (ds := [((eP PyData.int PyData.int) (qp (ixG chances (x1 : Int)))), ((eP PyData.int PyData.int) (qp (ixG rows (x1 : Int))))]) (ea_cons (ed_is (ed_ixTX (f := eQ) (l := chances) (ed_var rfl) (ed_var rfl) (by exact inb (by have := List.mem_range.mp (by assumption); omega))) (rfl : _ = ((eP PyData.int PyData.int) (qp (ixG chances (x1 : Int)))))) (ea_cons (ed_is (ed_ixTX (f := eQ) (l := rows) (ed_var rfl) (ed_var rfl) (by exact inb (by have := List.mem_range.mp (by assumption); omega))) (rfl : _ = ((eP PyData.int PyData.int) (qp (ixG rows (x1 : Int)))))) ea_nil)) ⟨(qp (ixG chances (x1 : Int))), (qp (ixG rows (x1 : Int))), rfl, by exact (mean_a h0 h1 (by assumption)).1.pb, by exact (mean_a h0 h1 (by assumption)).2.pb, rfl⟩) (by simp only [qv_qp] : _ = (eQ ((ixG chances (x1 : Int)) * (ixG rows (x1 : Int))))))⟩))) (rfl : _ = ((eS eQ) (true, (((List.range (((rows).length : Int)).toNat)).map fun (x1 : Nat) => ((ixG chances (x1 : Int)) * (ixG rows (x1 : Int)))))))) ea_nil) ⟨(true, (((List.range (((rows).length : Int)).toNat)).map fun (x1 : Nat) => ((ixG chances (x1 : Int)) * (ixG rows (x1 : Int))))), rfl, by exact mean_pre h0 h1, rfl⟩) (by rfl : (eQ (((true, (((List.range (((rows).length : Int)).toNat)).map fun (x1 : Nat) => ((ixG chances (x1 : Int)) * (ixG rows (x1 : Int)))))).2.sum)) = (eQ (meanF chances rows)))) hR

/-! ### _law_halves_hold -/
abbrev s_law_halves_hold : Stmt := topS 43
abbrev N_law_halves_hold : List Str := ["state", "walk", "place", "time", "told", "steps", "inner", "k", "half", "at", "rows", "parts", "j"]
theorem sc_law_halves_hold : FnScope N_law_halves_hold ["state", "walk", "place", "time", "told", "steps"] (defScope s_law_halves_hold) := ⟨rfl, rfl, rfl, by decide +kernel, rfl, by decide +kernel, by decide +kernel⟩
def R_law_halves_hold : List PyData → (PyData → Prop) → Prop := fun ds Φ => ∃ (walk : (List Rat)) (place : Int) (time : Int) (told : (List Rat)) (steps : (List Rat)), ds = [((eT eQ) walk), (PyData.int place), (PyData.int time), ((eT eQ) told), ((eT eQ) steps)] ∧ (WkOk walk) ∧ (0 ≤ place ∧ place ≤ (walk.length : Int) + 1) ∧ (0 ≤ time ∧ time < 8) ∧ (told = behF walk place.toNat time.toNat) ∧ (steps = stepsF walk) ∧ ∀ z : Bool, z = true → Φ (PyData.bool z)
set_option maxHeartbeats 4000000 in
theorem ok_law_halves_hold {P : Program} {w : World} {K : PySem.W.Frag} {mg : Str → Option Value} {base : Heap} (B : Gb K mg) (F : Fd K mg "_law_halves_hold" s_law_halves_hold) (C_law_add : Cl P w K mg base 2 "_law_add" ["one", "other"] (SpP K R_law_add)) (C_law_draw : Cl P w K mg base 1 "_law_draw" ["state", "many"] (SpW K R_draw)) (C_law_mean : Cl P w K mg base 4 "_law_mean" ["chances", "rows"] (SpP K R_law_mean)) (C_law_mul : Cl P w K mg base 2 "_law_mul" ["one", "other"] (SpP K R_law_mul)) (C_law_sum : Cl P w K mg base 3 "_law_sum" ["rows"] (SpP K R_law_sum)) (C_places_behind : Cl P w K mg base 5 "places_behind" ["walk", "place", "steps"] (SpP K R_places_behind)) : Cl P w K mg base 6 "_law_halves_hold" ["state", "walk", "place", "time", "told", "steps"] (SpW K R_law_halves_hold) := by
  have BG := B
  obtain ⟨f, fd, F, hm⟩ := F.ex
  refine ⟨f, fd, fnG_of (k := 5) F sc_law_halves_hold (spW_len fun ds d h => ?_) (fun cdv A outer s H hr hgd => ⟨_, (pss_cons (ps_set (i := 6) sc_law_halves_hold.nd rfl (Or.inl rfl) (pe_tupF (pa_cons pe_int (pa_cons pe_int pa_nil)))) (pss_cons (ps_for PassesOwn.never rfl (pi_range1 (by rfl) B.range_ (pa_cons (pv 3) pa_nil)) (pg_name (i := 7) sc_law_halves_hold.nd rfl (Or.inl rfl)) (pss_one (ps_set (i := 6) sc_law_halves_hold.nd rfl (Or.inl rfl) (pe_cl C_law_add (hr.mono (by decide)) hgd (by rfl) (pa_cons (pv 6) (pa_cons (pe_cl C_law_sum (hr.mono (by decide)) hgd (by rfl) (pa_cons (pe_slice (r := rSlF K) sl_tupF (pe_cl C_places_behind (hr.mono (by decide)) hgd (by rfl) (pa_cons (pv 1) (pa_cons (pv 2) (pa_cons (pv 7) pa_nil)))) (po_some pe_int) (po_some (pe_un un_neg pe_int))) pa_nil)) pa_nil)))))) (pss_cons (ps_if (pt_cmpR (r := rNeD K) (op_neD hr.units) (pe_cl C_law_add (hr.mono (by decide)) hgd (by rfl) (pa_cons (pv 6) (pa_cons (pe_cl C_law_mean (hr.mono (by decide)) hgd (by rfl) (pa_cons (pv 4) (pa_cons (pv 5) pa_nil))) pa_nil))) (pe_ix (r := rIxT K) ix_tup (pv 5) (pv 2) (fun _ _ => rfl)) (nomark _)) pss_never pss_nil) (pss_cons (ps_asg (pe_tupF (pa_cons (pe_cl C_law_draw (hr.mono (by decide)) hgd (by rfl) (pa_cons (pv 0) (pa_cons (pe_op op_add (pv 3) pe_int) pa_nil))) (pa_cons (pe_cl C_law_draw (hr.mono (by decide)) hgd (by rfl) (pa_cons (pv 0) (pa_cons (pe_callB (r := rLenS K) call_len_seq (by rfl) B.len_ PySem.boot_len (pa_cons (pv 4) pa_nil)) pa_nil))) pa_nil))) (pg_tup rfl (pgs_cons (pg_name (i := 8) sc_law_halves_hold.nd rfl (Or.inr rfl)) (pgs_cons (pg_name (i := 9) sc_law_halves_hold.nd rfl (Or.inr rfl)) pgs_nil))) rfl) (pss_cons (ps_set (i := 10) sc_law_halves_hold.nd rfl (Or.inr rfl) (pe_cl C_places_behind (hr.mono (by decide)) hgd (by rfl) (pa_cons (pv 1) (pa_cons (pv 2) (pa_cons (pv 8) pa_nil))))) (pss_cons (ps_setLc (i := 11) (own := [("j", 12)]) (g := _) (tt := _) rfl sc_law_halves_hold.nd rfl rfl (sw_true rfl rfl rfl (by decide +kernel)) (pi_range1 (by rfl) B.range_ (pa_cons (pe_callB (r := rLenS K) call_len_seq (by rfl) B.len_ PySem.boot_len (pa_cons (pv 10) pa_nil)) pa_nil)) (blkOk_by (N := N_law_halves_hold) (sc := defScope s_law_halves_hold) (by decide +kernel)) (fun _ _ _ _ _ => (pg_name (i := 12) sc_law_halves_hold.nd rfl (by first | exact Or.inl rfl | exact Or.inr rfl))) (fun _ _ _ _ _ => (pts_one (pt_cmpR op_gt (pe_ix (r := rIxT K) ix_tup (pe_ix (r := rIxT K) ix_tup (pv 10) (pv 12) (fun _ _ => rfl)) pe_int (fun _ _ => rfl)) pe_int (nomark _)))) (fun _ _ _ _ _ => (pe_cl C_law_mul (hr.mono (by decide)) hgd (by rfl) (pa_cons (pe_ix (r := rIxT K) ix_tup (pv 10) (pv 12) (fun _ _ => rfl)) (pa_cons (pe_ix (r := rIxT K) ix_tup (pe_cl C_places_behind (hr.mono (by decide)) hgd (by rfl) (pa_cons (pv 1) (pa_cons (pv 12) (pa_cons (pe_op op_sub (pv 3) (pv 8)) pa_nil)))) (pv 9) (fun _ _ => rfl)) pa_nil))))) (pss_one (ps_ret (pe_cmpR (r := rEqD K) (op_eqD hr.units) (pe_cl C_law_sum (hr.mono (by decide)) hgd (by rfl) (pa_cons (pv 11) pa_nil)) (pe_ix (r := rIxT K) ix_tup (pv 4) (pv 9) (fun _ _ => rfl)) (nomark _)))))))))), fun vs Q => fn_draws (N := N_law_halves_hold) (fun ds d h => ?_) (fun B S a ds Φ h D hR => ?_) vs H Q E0⟩), hm, F.kp, F.binds fun _ _ _ _ _ _ us hl => match us, hl with | [_, _, _, _, _, _], _ => rfl⟩
  · obtain ⟨walk, place, time, told, steps, rfl, h0, h1, h2, h3, h4, hΦ⟩ := h; rfl
  · obtain ⟨walk, place, time, told, steps, rfl, h0, h1, h2, h3, h4, hΦ⟩ := h; simp
  · obtain ⟨walk, place, time, told, steps, rfl, h0, h1, h2, h3, h4, hΦ⟩ := h
    have hw2 := h0.1.2
    have htl : told.length = walk.length + 2 := by rw [h3, beh_len]
    have hsl : steps.length = walk.length + 2 := by rw [h4, steps_row, rowL_len]
    show Ss _ _ [.mu false a (.any StOk), .da ((eT eQ) walk), .da (PyData.int place), .da (PyData.int time), .da ((eT eQ) told), .da ((eT eQ) steps), .no, .no, .no, .no, .no, .no, .no] _ _
    refine s_seq (s_asg (ed_is (d1 := eQ (0 : Rat)) (ed_tup (ds := [PyData.int (0 : Int), PyData.int (1 : Int)]) (ea_cons ed_int (ea_cons ed_int ea_nil))) (by rfl)) (s_le (ρ1 := [.mu false a (.any StOk), .da ((eT eQ) walk), .da (PyData.int place), .da (PyData.int time), .da ((eT eQ) told), .da ((eT eQ) steps), .da (eQ (0 : Rat)), .no, .no, .no, .no, .no, .no]) (le_rfl rfl) ?_))
    refine s_seq (s_forX ((List.range (time).toNat)) (fun (i : Nat) => Itm.hard (PyData.int (i : Int))) (ei_rng (ed_var rfl) (by first | omega | (rw [beh_len]; omega))) (fun i0 => [.mu false a (.any StOk), .da ((eT eQ) walk), .da (PyData.int place), .da (PyData.int time), .da ((eT eQ) told), .da ((eT eQ) steps), .da (eQ (innF walk place.toNat i0)), .no, .no, .no, .no, .no, .no]) (le_same (le_same (le_same (le_same (le_same (le_same (le_da (by rfl) (le_no (le_no (le_no (le_no (le_no (le_no le_nil))))))))))))) (fun T0 hT0 i0 x0 hx0 => ⟨_, [7], (eg_name (by simp)), ?_⟩) ?_)
    · show Ss _ _ [.mu false a (.any StOk), .da ((eT eQ) walk), .da (PyData.int place), .da (PyData.int time), .da ((eT eQ) told), .da ((eT eQ) steps), .da (eQ (innF walk place.toNat i0)), .da (PyData.int (x0 : Int)), .no, .no, .no, .no, .no] _ _
      have hi0 := rng_get hx0
      refine (s_asg (ed_is (ed_call (ds := [((eP PyData.int PyData.int) (qp (innF walk place.toNat i0))), ((eP PyData.int PyData.int) (qp (((false, (cutX (behF (walk) (place).toNat ((x0 : Int)).toNat) (some (1 : Int)) (some (-(1 : Int)))))).2.sum)))]) (ea_cons (ed_is (ed_var rfl) (rfl : _ = ((eP PyData.int PyData.int) (qp (innF walk place.toNat i0))))) (ea_cons (ed_is (ed_call (ds := [((eS eQ) (false, (cutX (behF (walk) (place).toNat ((x0 : Int)).toNat) (some (1 : Int)) (some (-(1 : Int))))))]) (ea_cons (ed_is (ed_sliceT (ed_call (ds := [((eT eQ) walk), (PyData.int place), (PyData.int (x0 : Int))]) (ea_cons (ed_var rfl) (ea_cons (ed_var rfl) (ea_cons (ed_var rfl) ea_nil))) ⟨walk, place, (x0 : Int), rfl, by exact h0, by exact h1, by omega, rfl⟩) (eo_some ed_int) (eo_some (ed_neg ed_int))) (rfl : _ = ((eS eQ) (false, (cutX (behF (walk) (place).toNat ((x0 : Int)).toNat) (some (1 : Int)) (some (-(1 : Int)))))))) ea_nil) ⟨(false, (cutX (behF (walk) (place).toNat ((x0 : Int)).toNat) (some (1 : Int)) (some (-(1 : Int))))), rfl, by exact mid_pre h0 (by omega), rfl⟩) (rfl : _ = ((eP PyData.int PyData.int) (qp (((false, (cutX (behF (walk) (place).toNat ((x0 : Int)).toNat) (some (1 : Int)) (some (-(1 : Int)))))).2.sum))))) ea_nil)) ⟨(qp (innF walk place.toNat i0)), (qp (((false, (cutX (behF (walk) (place).toNat ((x0 : Int)).toNat) (some (1 : Int)) (some (-(1 : Int)))))).2.sum)), rfl, by exact (inn_qb h0 _ (by omega)).pb, by exact (mid_qb h0 (by omega)).pb, rfl⟩) (by simp only [qv_qp] : _ = (eQ ((innF walk place.toNat i0) + (((false, (cutX (behF (walk) (place).toNat ((x0 : Int)).toNat) (some (1 : Int)) (some (-(1 : Int)))))).2.sum))))) (s_le (ρ1 := [.mu false a (.any StOk), .da ((eT eQ) walk), .da (PyData.int place), .da (PyData.int time), .da ((eT eQ) told), .da ((eT eQ) steps), .da (eQ ((innF walk place.toNat i0) + (((false, (cutX (behF (walk) (place).toNat ((x0 : Int)).toNat) (some (1 : Int)) (some (-(1 : Int)))))).2.sum))), .da (PyData.int (x0 : Int)), .no, .no, .no, .no, .no]) (le_rfl rfl) ?_))
      exact s_end (le_same (le_same (le_same (le_same (le_same (le_same (le_da (by exact congrArg eQ (inn_step hx0)) (le_no (le_no (le_no (le_no (le_no (le_no le_nil)))))))))))))
    refine s_seq (s_if (b := (!decide (((innF walk place.toNat ((List.range (time).toNat)).length) + (meanF (told) (steps))) = (ixG steps place)))) (et_test (ed_neQ (ed_is (ed_call (ds := [((eP PyData.int PyData.int) (qp (innF walk place.toNat ((List.range (time).toNat)).length))), ((eP PyData.int PyData.int) (qp (meanF (told) (steps))))]) (ea_cons (ed_is (ed_var rfl) (rfl : _ = ((eP PyData.int PyData.int) (qp (innF walk place.toNat ((List.range (time).toNat)).length))))) (ea_cons (ed_is (ed_call (ds := [((eT eQ) told), ((eT eQ) steps)]) (ea_cons (ed_var rfl) (ea_cons (ed_var rfl) ea_nil)) ⟨told, steps, rfl, by omega, by rw [h3, h4]; exact mean_ok_steps h0 (by omega), rfl⟩) (rfl : _ = ((eP PyData.int PyData.int) (qp (meanF (told) (steps)))))) ea_nil)) ⟨(qp (innF walk place.toNat ((List.range (time).toNat)).length)), (qp (meanF (told) (steps))), rfl, by rw [List.length_range]; exact (inn_qb h0 _ (by omega)).pb, by exact (mean_qb (by omega) (by rw [h3, h4]; exact mean_ok_steps h0 (by omega))).pb, rfl⟩) (by simp only [qv_qp] : _ = (eQ ((innF walk place.toNat ((List.range (time).toNat)).length) + (meanF (told) (steps)))))) (ed_ixTX (f := eQ) (l := steps) (ed_var rfl) (ed_var rfl) (by first | exact inb (by omega) | exact inb (by rw [beh_len]; omega) | exact inb (by have := List.mem_range.mp (by assumption); rw [beh_len] at *; omega))))) (fun hc0 => ?_) (fun hc0 => ?_))
    · exact absurd hc0 (by rw [h3, h4]; exact half_if h0 h1)
    · refine s_next ?_
      refine s_seq (s_asgGW (ws := [8, 9]) (ρ2 := fun q2 => [.mu false a (.any StOk), .da ((eT eQ) walk), .da (PyData.int place), .da (PyData.int time), .da ((eT eQ) told), .da ((eT eQ) steps), .da (eQ (innF walk place.toNat ((List.range (time).toNat)).length)), .no, .da (PyData.int (q2).1), .da (PyData.int (q2).2), .no, .no, .no]) (ew_as (g := (eP PyData.int PyData.int)) (R := (fun q1 => (fun x => 0 ≤ x ∧ x < (time + (1 : Int))) q1.1 ∧ (fun x => 0 ≤ x ∧ x < ((told).length : Int)) q1.2)) (ew_tup (ds := fun p : Int × Int × Unit => [(PyData.int p.1), (PyData.int p.2.1)]) (n := 2) (ewa_cons (ew_drawD (i := 0) (ed_I0 (ed_var rfl) ed_int) rfl rfl (by omega)) (ewa_cons (ew_drawD (i := 0) (ed_lenTX (ed_var rfl)) rfl rfl (by omega)) ewa_nil)) (fun _ => rfl)) (fun p hp => ⟨(p.1, p.2.1), ⟨hp.1, hp.2.1⟩, rfl⟩)) (fun q2 hq3 => (eg_tup (egs_cons (eg_name (by simp)) (egs_cons (eg_name (by simp)) egs_nil)))) (fun q2 hq3 => ?_))
      obtain ⟨half_v, at_v⟩ := q2
      obtain ⟨h_half_v, h_at_v⟩ := hq3
      refine s_le (ρ1 := [.mu false a (.any StOk), .da ((eT eQ) walk), .da (PyData.int place), .da (PyData.int time), .da ((eT eQ) told), .da ((eT eQ) steps), .da (eQ (innF walk place.toNat ((List.range (time).toNat)).length)), .no, .da (PyData.int half_v), .da (PyData.int at_v), .no, .no, .no]) (le_rfl rfl) ?_
      try dsimp only at h_half_v
      try dsimp only at h_at_v
      refine s_seq (s_asg (ed_call (ds := [((eT eQ) walk), (PyData.int place), (PyData.int half_v)]) (ea_cons (ed_var rfl) (ea_cons (ed_var rfl) (ea_cons (ed_var rfl) ea_nil))) ⟨walk, place, half_v, rfl, by exact h0, by exact h1, by omega, rfl⟩) (s_le (ρ1 := [.mu false a (.any StOk), .da ((eT eQ) walk), .da (PyData.int place), .da (PyData.int time), .da ((eT eQ) told), .da ((eT eQ) steps), .da (eQ (innF walk place.toNat ((List.range (time).toNat)).length)), .no, .da (PyData.int half_v), .da (PyData.int at_v), .da ((eT eQ) (behF (walk) (place).toNat (half_v).toNat)), .no, .no]) (le_rfl rfl) ?_))
      refine s_seq (s_asg (ed_L (el_lcPX (xs := (List.range ((((behF (walk) (place).toNat (half_v).toNat)).length : Int)).toNat)) (ea := fun (i : Nat) => Itm.hard (PyData.int (i : Int))) (p := fun (x4 : Nat) => (decide ((0 : Int) < ((ixG (behF (walk) (place).toNat (half_v).toNat) (x4 : Int))).num))) (enc := eQ) (fb := fun (x4 : Nat) => ((ixG (behF (walk) (place).toNat (half_v).toNat) (x4 : Int)) * (ixG (behF (walk) ((x4 : Int)).toNat ((time - half_v)).toNat) at_v))) (ei_rng (ed_lenTX (ed_var rfl)) (by first | omega | (rw [beh_len]; omega))) (by rw [List.length_range, beh_len]; omega) (by simp) (fun _ _ x4 hx4 => ⟨_, rfl, (eg_name (by simp)), (et_test (ed_B0 (ed_ixT (ed_ixTX (f := eQ) (l := (behF (walk) (place).toNat (half_v).toNat)) (ed_var rfl) (ed_var rfl) (by first | exact inb (by omega) | exact inb (by rw [beh_len]; omega) | exact inb (by have := List.mem_range.mp (by assumption); rw [beh_len] at *; omega))) ed_int rfl) ed_int)), fun hp5 => (ed_is (ed_call (ds := [((eP PyData.int PyData.int) (qp (ixG (behF (walk) (place).toNat (half_v).toNat) (x4 : Int)))), ((eP PyData.int PyData.int) (qp (ixG (behF (walk) ((x4 : Int)).toNat ((time - half_v)).toNat) at_v)))]) (ea_cons (ed_is (ed_ixTX (f := eQ) (l := (behF (walk) (place).toNat (half_v).toNat)) (ed_var rfl) (ed_var rfl) (by first | exact inb (by omega) | exact inb (by rw [beh_len]; omega) | exact inb (by have := List.mem_range.mp (by assumption); rw [beh_len] at *; omega))) (rfl : _ = ((eP PyData.int PyData.int) (qp (ixG (behF (walk) (place).toNat (half_v).toNat) (x4 : Int)))))) (ea_cons (ed_is (ed_ixTX (f := eQ) (l := (behF (walk) ((x4 : Int)).toNat ((time - half_v)).toNat)) (ed_call (ds := [((eT eQ) walk), (PyData.int (x4 : Int)), (PyData.int (time - half_v))]) (ea_cons (ed_var rfl) (ea_cons (ed_var rfl) (ea_cons (ed_I0 (ed_var rfl) (ed_var rfl)) ea_nil))) ⟨walk, (x4 : Int), (time - half_v), rfl, by exact h0, by have := List.mem_range.mp (by assumption); rw [beh_len] at this; omega, by omega, rfl⟩) (ed_var rfl) (by first | exact inb (by omega) | exact inb (by rw [beh_len]; omega) | exact inb (by have := List.mem_range.mp (by assumption); rw [beh_len] at *; omega))) (rfl : _ = ((eP PyData.int PyData.int) (qp (ixG (behF (walk) ((x4 : Int)).toNat ((time - half_v)).toNat) at_v))))) ea_nil)) ⟨(qp (ixG (behF (walk) (place).toNat (half_v).toNat) (x4 : Int))), (qp (ixG (behF (walk) ((x4 : Int)).toNat ((time - half_v)).toNat) at_v)), rfl, by have := List.mem_range.mp (by assumption); rw [beh_len] at this; exact (beh_qb h0 (by omega) (by omega)).pb, by exact (beh_qb h0 (by omega) (by omega)).pb, rfl⟩) (by simp only [qv_qp] : _ = (eQ ((ixG (behF (walk) (place).toNat (half_v).toNat) (x4 : Int)) * (ixG (behF (walk) ((x4 : Int)).toNat ((time - half_v)).toNat) at_v)))))⟩))) (s_le (ρ1 := [.mu false a (.any StOk), .da ((eT eQ) walk), .da (PyData.int place), .da (PyData.int time), .da ((eT eQ) told), .da ((eT eQ) steps), .da (eQ (innF walk place.toNat ((List.range (time).toNat)).length)), .no, .da (PyData.int half_v), .da (PyData.int at_v), .da ((eT eQ) (behF (walk) (place).toNat (half_v).toNat)), .da ((eL eQ) ((((List.range ((((behF (walk) (place).toNat (half_v).toNat)).length : Int)).toNat)).filter fun (x4 : Nat) => (decide ((0 : Int) < ((ixG (behF (walk) (place).toNat (half_v).toNat) (x4 : Int))).num))).map fun (x4 : Nat) => ((ixG (behF (walk) (place).toNat (half_v).toNat) (x4 : Int)) * (ixG (behF (walk) ((x4 : Int)).toNat ((time - half_v)).toNat) at_v)))), .no]) (le_rfl rfl) ?_))
      exact s_retW (i := 0) (ew_det (f := PyData.bool) (x := (decide ((((true, ((((List.range ((((behF (walk) (place).toNat (half_v).toNat)).length : Int)).toNat)).filter fun (x4 : Nat) => (decide ((0 : Int) < ((ixG (behF (walk) (place).toNat (half_v).toNat) (x4 : Int))).num))).map fun (x4 : Nat) => ((ixG (behF (walk) (place).toNat (half_v).toNat) (x4 : Int)) * (ixG (behF (walk) ((x4 : Int)).toNat ((time - half_v)).toNat) at_v))))).2.sum) = (ixG told at_v)))) (ed_eqQ (ed_call (ds := [((eS eQ) (true, ((((List.range ((((behF (walk) (place).toNat (half_v).toNat)).length : Int)).toNat)).filter fun (x4 : Nat) => (decide ((0 : Int) < ((ixG (behF (walk) (place).toNat (half_v).toNat) (x4 : Int))).num))).map fun (x4 : Nat) => ((ixG (behF (walk) (place).toNat (half_v).toNat) (x4 : Int)) * (ixG (behF (walk) ((x4 : Int)).toNat ((time - half_v)).toNat) at_v)))))]) (ea_cons (ed_is (ed_var rfl) (rfl : _ = ((eS eQ) (true, ((((List.range ((((behF (walk) (place).toNat (half_v).toNat)).length : Int)).toNat)).filter fun (x4 : Nat) => (decide ((0 : Int) < ((ixG (behF (walk) (place).toNat (half_v).toNat) (x4 : Int))).num))).map fun (x4 : Nat) => ((ixG (behF (walk) (place).toNat (half_v).toNat) (x4 : Int)) * (ixG (behF (walk) ((x4 : Int)).toNat ((time - half_v)).toNat) at_v))))))) ea_nil) ⟨(true, ((((List.range ((((behF (walk) (place).toNat (half_v).toNat)).length : Int)).toNat)).filter fun (x4 : Nat) => (decide ((0 : Int) < ((ixG (behF (walk) (place).toNat (half_v).toNat) (x4 : Int))).num))).map fun (x4 : Nat) => ((ixG (behF (walk) (place).toNat (half_v).toNat) (x4 : Int)) * (ixG (behF (walk) ((x4 : Int)).toNat ((time - half_v)).toNat) at_v)))), rfl, by exact part_pre h0 h2 h_half_v (by omega), rfl⟩) (ed_ixTX (f := eQ) (l := told) (ed_var rfl) (ed_var rfl) (by first | exact inb (by omega) | exact inb (by rw [beh_len]; omega) | exact inb (by have := List.mem_range.mp (by assumption); rw [beh_len] at *; omega))))) rfl hR (fun x hx => by subst hx; exact hΦ _ (by rw [h3]; exact half_ret h0 h1 h_half_v (by omega)))

/-! ### law -/
abbrev s_law : Stmt := topS 44
abbrev N_law : List Str := ["script", "state", "walk", "many", "tops", "steps", "at", "word", "more", "rows", "back", "chance", "cut", "first", "k", "turn", "place", "time", "told"]
theorem sc_law : FnScope N_law ["script"] (defScope s_law) := ⟨rfl, rfl, rfl, by decide +kernel, rfl, by decide +kernel, by decide +kernel⟩
def R_law : List PyData → PyData → Prop := fun ds d => ∃ (script : (List Int)), ds = [((eL PyData.int) script)] ∧ (script.length ≤ 100000) ∧ d = (PyData.bool (true))
set_option maxHeartbeats 4000000 in
theorem ok_law {P : Program} {w : World} {K : PySem.W.Frag} {mg : Str → Option Value} {base : Heap} (B : Gb K mg) {f : Addr} {fd : FuncData} (F : Fun K "law" "law" s_law f fd) (C_law_add : Cl P w K mg base 2 "_law_add" ["one", "other"] (SpP K R_law_add)) (C_law_draw : Cl P w K mg base 1 "_law_draw" ["state", "many"] (SpW K R_draw)) (C_law_halves_hold : Cl P w K mg base 6 "_law_halves_hold" ["state", "walk", "place", "time", "told", "steps"] (SpW K R_law_halves_hold)) (C_law_mean : Cl P w K mg base 4 "_law_mean" ["chances", "rows"] (SpP K R_law_mean)) (C_law_mul : Cl P w K mg base 2 "_law_mul" ["one", "other"] (SpP K R_law_mul)) (C_law_other : Cl P w K mg base 1 "_law_other" ["chance"] (SpP K R_law_other)) (C_law_pick : Cl P w K mg base 2 "_law_pick" ["state", "some"] (SpW K R_pick)) (C_law_refused_accept_mean_steps : Cl P w K mg base 7 "_law_refused" ["way", "walk", "rows"] (SpRef K mg "accept_mean_steps" R_accept_mean_steps)) (C_law_refused_accept_top : Cl P w K mg base 7 "_law_refused" ["way", "walk", "rows"] (SpRef K mg "accept_top" R_accept_top)) (C_law_same : Cl P w K mg base 1 "_law_same" ["actual", "due"] (SpP K R_law_same)) (C_law_start : Cl P w K mg base 1 "_law_start" ["script"] (SpL K R_law_start)) (C_law_sum : Cl P w K mg base 3 "_law_sum" ["rows"] (SpP K R_law_sum)) (C_law_top : Cl P w K mg base 3 "_law_top" ["walk"] (SpP K R_law_top)) (C_law_walk : Cl P w K mg base 3 "_law_walk" ["state", "many"] (SpW K R_law_walk)) (C_mean_steps : Cl P w K mg base 5 "mean_steps" ["walk"] (SpP K R_mean_steps)) (C_places_behind : Cl P w K mg base 5 "places_behind" ["walk", "place", "steps"] (SpP K R_places_behind)) (C_top_chances : Cl P w K mg base 5 "top_chances" ["walk"] (SpP K R_top_chances)) {f_accept_mean_steps : Addr} (G_accept_mean_steps : mg "accept_mean_steps" = some (.ref f_accept_mean_steps)) {f_accept_top : Addr} (G_accept_top : mg "accept_top" = some (.ref f_accept_top)) : FnG P w K mg base 8 f fd ["script"] (SpP K R_top) := by
  have BG := B
  refine fnG_of (k := 7) F sc_law (spP_len fun ds d h => ?_) (fun cdv A outer s H hr hgd => ⟨_, (pss_cons (ps_set (i := 1) sc_law.nd rfl (Or.inl rfl) (pe_cl C_law_start (hr.mono (by decide)) hgd (by rfl) (pa_cons (pv 0) pa_nil))) (pss_cons (ps_set (i := 2) sc_law.nd rfl (Or.inl rfl) (pe_cl C_law_walk (hr.mono (by decide)) hgd (by rfl) (pa_cons (pv 1) (pa_cons (pe_op op_add pe_int (pe_cl C_law_draw (hr.mono (by decide)) hgd (by rfl) (pa_cons (pv 1) (pa_cons (pe_cl C_law_pick (hr.mono (by decide)) hgd (by rfl) (pa_cons (pv 1) (pa_cons (pe_lst (pa_cons pe_int (pa_cons pe_int (pa_cons pe_int pa_nil)))) pa_nil))) pa_nil)))) pa_nil)))) (pss_cons (ps_asg (pe_tupF (pa_cons (pe_callB (r := rLenS K) call_len_seq (by rfl) B.len_ PySem.boot_len (pa_cons (pv 2) pa_nil)) (pa_cons (pe_cl C_top_chances (hr.mono (by decide)) hgd (by rfl) (pa_cons (pv 2) pa_nil)) (pa_cons (pe_cl C_mean_steps (hr.mono (by decide)) hgd (by rfl) (pa_cons (pv 2) pa_nil)) pa_nil)))) (pg_tup rfl (pgs_cons (pg_name (i := 3) sc_law.nd rfl (Or.inl rfl)) (pgs_cons (pg_name (i := 4) sc_law.nd rfl (Or.inr rfl)) (pgs_cons (pg_name (i := 5) sc_law.nd rfl (Or.inl rfl)) pgs_nil)))) rfl) (pss_cons (ps_if (PW.pt (pw_or (pt_not (pt_truth (pe_cl C_law_same (hr.mono (by decide)) hgd (by rfl) (pa_cons (pv 4) (pa_cons (pe_cl C_law_top (hr.mono (by decide)) hgd (by rfl) (pa_cons (pv 2) pa_nil)) pa_nil))) (fun _ => rfl))) (pw_or (pt_cmpR op_ne (pe_cl C_law_refused_accept_top (hr.mono (by decide)) hgd (by rfl) (pa_cons (pe_glob (v := .ref f_accept_top) (by rfl) G_accept_top rfl) (pa_cons (pv 2) (pa_cons (pv 4) pa_nil)))) pe_str (nomark _)) (pw_or1 (pt_cmpR op_ne (pe_cl C_law_refused_accept_mean_steps (hr.mono (by decide)) hgd (by rfl) (pa_cons (pe_glob (v := .ref f_accept_mean_steps) (by rfl) G_accept_mean_steps rfl) (pa_cons (pv 2) (pa_cons (pv 5) pa_nil)))) pe_str (nomark _)))))) pss_never pss_nil) (pss_cons (ps_set (i := 6) sc_law.nd rfl (Or.inr rfl) (pe_cl C_law_draw (hr.mono (by decide)) hgd (by rfl) (pa_cons (pv 1) (pa_cons (pe_op op_add (pv 3) pe_int) pa_nil)))) (pss_cons (ps_set (i := 7) sc_law.nd rfl (Or.inl rfl) (pe_ifExp (pt_cmpR (r := rIn K false) op_in_seq (pv 6) (pe_lst (pa_cons pe_int (pa_cons (pe_op op_add (pv 3) pe_int) pa_nil))) (by rfl)) pe_str pe_str)) (pss_cons (ps_setLc (i := 8) (own := [("rows", 9)]) (g := _) (tt := tYes) rfl sc_law.nd rfl rfl (sw_true rfl rfl rfl (by decide +kernel)) (pi_list (pe_lst (pa_cons (pv 4) (pa_cons (pv 5) pa_nil)))) (blkOk_by (N := N_law) (sc := defScope s_law) (by decide +kernel)) (fun _ _ _ _ _ => (pg_name (i := 9) sc_law.nd rfl (by first | exact Or.inl rfl | exact Or.inr rfl))) (fun _ _ _ _ _ => pts_nil) (fun _ _ _ _ _ => (pe_op (r := rCatF K) op_catF (pe_op (r := rCatF K) op_catF (pe_slice (r := rSlF K) sl_tupF (pv 9) po_none (po_some (pv 6))) (pe_tupF (pa_cons (pe_cl C_law_add (hr.mono (by decide)) hgd (by rfl) (pa_cons (pe_ix (r := rIxT K) ix_tup (pv 9) (pv 6) (fun _ _ => rfl)) (pa_cons (pe_tupF (pa_cons pe_int (pa_cons pe_int pa_nil))) pa_nil))) pa_nil))) (pe_slice (r := rSlF K) sl_tupF (pv 9) (po_some (pe_op op_add (pv 6) pe_int)) po_none)))) (pss_cons (ps_if (pt_cmpR (r := rNeD K) (op_neD hr.units) (pe_lst (pa_cons (pe_cl C_law_refused_accept_top (hr.mono (by decide)) hgd (by rfl) (pa_cons (pe_glob (v := .ref f_accept_top) (by rfl) G_accept_top rfl) (pa_cons (pv 2) (pa_cons (pe_ix (r := rIxL K) ix_list (pv 8) pe_int (fun _ _ => rfl)) pa_nil)))) (pa_cons (pe_cl C_law_refused_accept_mean_steps (hr.mono (by decide)) hgd (by rfl) (pa_cons (pe_glob (v := .ref f_accept_mean_steps) (by rfl) G_accept_mean_steps rfl) (pa_cons (pv 2) (pa_cons (pe_ix (r := rIxL K) ix_list (pv 8) pe_int (fun _ _ => rfl)) pa_nil)))) pa_nil))) (pe_op op_rep (pe_lst (pa_cons (pv 7) pa_nil)) pe_int) (nomark _)) pss_never pss_nil) (pss_cons (ps_set (i := 10) sc_law.nd rfl (Or.inl rfl) (pe_callTy (r := rTupOf K) call_tupleF (by rfl) B.tuple_ PyProof.Rows.boot_tuple (pa_cons (pe_lc (own := [("chance", 11)]) (g := _) (tt := tYes) rfl sc_law.nd (pi_tup (pe_revT (pv 2))) (blkOk_by (N := N_law) (sc := defScope s_law) (by decide +kernel)) (fun _ _ _ _ _ => (pg_name (i := 11) sc_law.nd rfl (by first | exact Or.inl rfl | exact Or.inr rfl))) (fun _ _ _ _ _ => pts_nil) (fun _ _ _ _ _ => (pe_cl C_law_other (hr.mono (by decide)) hgd (by rfl) (pa_cons (pv 11) pa_nil)))) pa_nil))) (pss_cons (ps_if (pt_not (pt_truth (pe_cl C_law_same (hr.mono (by decide)) hgd (by rfl) (pa_cons (pe_lst (pa_cons (pe_cl C_top_chances (hr.mono (by decide)) hgd (by rfl) (pa_cons (pv 10) pa_nil)) (pa_cons (pe_cl C_mean_steps (hr.mono (by decide)) hgd (by rfl) (pa_cons (pv 10) pa_nil)) pa_nil))) (pa_cons (pe_lst (pa_cons (pe_callTy (r := rTupOf K) call_tupleF (by rfl) B.tuple_ PyProof.Rows.boot_tuple (pa_cons (pe_lc (own := [("chance", 11)]) (g := _) (tt := tYes) rfl sc_law.nd (pi_tup (pe_revT (pv 4))) (blkOk_by (N := N_law) (sc := defScope s_law) (by decide +kernel)) (fun _ _ _ _ _ => (pg_name (i := 11) sc_law.nd rfl (by first | exact Or.inl rfl | exact Or.inr rfl))) (fun _ _ _ _ _ => pts_nil) (fun _ _ _ _ _ => (pe_cl C_law_other (hr.mono (by decide)) hgd (by rfl) (pa_cons (pv 11) pa_nil)))) pa_nil)) (pa_cons (pe_revT (pv 5)) pa_nil))) pa_nil))) (fun _ => rfl))) pss_never pss_nil) (pss_cons (ps_set (i := 12) sc_law.nd rfl (Or.inr rfl) (pe_op op_add pe_int (pe_cl C_law_draw (hr.mono (by decide)) hgd (by rfl) (pa_cons (pv 1) (pa_cons (pv 3) pa_nil))))) (pss_cons (ps_set (i := 13) sc_law.nd rfl (Or.inr rfl) (pe_ifExp (pt_cmpR op_gt (pv 12) pe_int (nomark _)) (pe_cl C_top_chances (hr.mono (by decide)) hgd (by rfl) (pa_cons (pe_slice (r := rSlF K) sl_tupF (pv 2) po_none (po_some (pe_op op_sub (pv 12) pe_int))) pa_nil)) (pe_tupF (pa_cons (pe_tupF (pa_cons pe_int (pa_cons pe_int pa_nil))) (pa_cons (pe_tupF (pa_cons pe_int (pa_cons pe_int pa_nil))) pa_nil))))) (pss_cons (ps_if (pt_truth (pe_lc (own := [("k", 14)]) (g := _) (tt := _) rfl sc_law.nd (pi_range1 (by rfl) B.range_ (pa_cons (pe_op op_add (pv 12) pe_int) pa_nil)) (blkOk_by (N := N_law) (sc := defScope s_law) (by decide +kernel)) (fun _ _ _ _ _ => (pg_name (i := 14) sc_law.nd rfl (by first | exact Or.inl rfl | exact Or.inr rfl))) (fun _ _ _ _ _ => (pts_one (pt_cmpR (r := rNeD K) (op_neD hr.units) (pe_cl C_law_mul (hr.mono (by decide)) hgd (by rfl) (pa_cons (pe_ix (r := rIxT K) ix_tup (pv 13) (pv 14) (fun _ _ => rfl)) (pa_cons (pe_ix (r := rIxT K) ix_tup (pv 4) (pv 12) (fun _ _ => rfl)) pa_nil))) (pe_ix (r := rIxT K) ix_tup (pv 4) (pv 14) (fun _ _ => rfl)) (nomark _)))) (fun _ _ _ _ _ => (pv 14))) (fun _ => rfl)) pss_never pss_nil) (pss_cons (ps_for PassesOwn.never rfl (pi_range1 (by rfl) B.range_ (pa_cons pe_int pa_nil)) (pg_name (i := 15) sc_law.nd rfl (Or.inl rfl)) (pss_cons (ps_par (i := 16) (j := 17) rfl sc_law.nd rfl rfl (by decide) rfl rfl (pa_cons (pe_cl C_law_draw (hr.mono (by decide)) hgd (by rfl) (pa_cons (pv 1) (pa_cons (pe_op op_add (pv 3) pe_int) pa_nil))) (pa_cons (pe_cl C_law_draw (hr.mono (by decide)) hgd (by rfl) (pa_cons (pv 1) (pa_cons (pe_cl C_law_pick (hr.mono (by decide)) hgd (by rfl) (pa_cons (pv 1) (pa_cons (pe_lst (pa_cons pe_int (pa_cons pe_int (pa_cons pe_int pa_nil)))) pa_nil))) pa_nil))) pa_nil)) rfl rfl) (pss_cons (ps_set (i := 18) sc_law.nd rfl (Or.inl rfl) (pe_cl C_places_behind (hr.mono (by decide)) hgd (by rfl) (pa_cons (pv 2) (pa_cons (pv 16) (pa_cons (pv 17) pa_nil))))) (pss_cons (ps_if (PW.pt (pw_or (pt_cmpR (r := rNeD K) (op_neD hr.units) (pe_cl C_law_sum (hr.mono (by decide)) hgd (by rfl) (pa_cons (pv 18) pa_nil)) (pe_tupF (pa_cons pe_int (pa_cons pe_int pa_nil))) (nomark _)) (pw_or1 (pt_cmpR (r := rNeD K) (op_neD hr.units) (pe_cl C_law_mean (hr.mono (by decide)) hgd (by rfl) (pa_cons (pv 18) (pa_cons (pv 4) pa_nil))) (pe_ix (r := rIxT K) ix_tup (pv 4) (pv 16) (fun _ _ => rfl)) (nomark _))))) pss_never pss_nil) (pss_one (ps_if (PW.pt (pw_and (pt_cmpR op_lt (pv 17) pe_int (nomark _)) (pw_and1 (pt_not (pt_truth (pe_cl C_law_halves_hold (hr.mono (by decide)) hgd (by rfl) (pa_cons (pv 1) (pa_cons (pv 2) (pa_cons (pv 16) (pa_cons (pv 17) (pa_cons (pv 18) (pa_cons (pv 5) pa_nil))))))) (fun _ => rfl)))))) pss_never pss_nil)))))) (pss_one (ps_ret pe_bl)))))))))))))))), fun vs Q => fn_pure (N := N_law) (fun ds d h => ?_) (fun B S ds d h D hR hN => ?_) vs H Q E0⟩)
  · obtain ⟨script, rfl, h0, rfl⟩ := h; rfl
  · obtain ⟨script, rfl, h0, rfl⟩ := h; simp
  · obtain ⟨script, rfl, h0, rfl⟩ := h
    show Ss _ _ [.da ((eL PyData.int) script), .no, .no, .no, .no, .no, .no, .no, .no, .no, .no, .no, .no, .no, .no, .no, .no, .no, .no] _ _
    refine s_seq (s_state (i := 1) (l := script) (s := seedOf script) (el_callL (ds := [((eL PyData.int) script)]) (ea_cons (ed_var rfl) ea_nil) ⟨_, rfl, by exact h0, rfl⟩) (fun p_state => s_le (ρ1 := [.da ((eL PyData.int) script), .mu true p_state (.any StOk), .no, .no, .no, .no, .no, .no, .no, .no, .no, .no, .no, .no, .no, .no, .no, .no, .no]) (le_rfl rfl) ?_))
    refine s_seq (s_asgW (ew_callW (i := 1) (e := (fun l : List Rat => PyData.tuple (l.map eQ))) (P3 := fun (x9 : Int × Unit) z => WkOk z) (ds := fun (x9 : Int × Unit) => [(PyData.int x9.1)]) (ewa_raw rfl (ewa_cons (ew_op (e := PyData.int) (F := (fun _ y3 => ((1 : Int) + y3))) (ew_det (f := PyData.int) (x := (1 : Int)) ed_int) (ew_draw (i := 1) (ew_pickLD (i := 1) (ed_L (el_lst (ds := [(4 : Int), (12 : Int), (30 : Int)].map PyData.int) (ea_cons ed_int (ea_cons ed_int (ea_cons ed_int ea_nil))))) rfl rfl (by simp)) rfl rfl (by intro m hm; simp at hm; omega)) (fun x2 y3 hx4 hy5 _ _ _ ha6 hb7 => by have hx4 := Eq.symm hx4; subst hx4; exact (ed_I0 ha6 hb7))) ewa_nil)) rfl (fun x9 hx10 => ⟨x9.1, rfl, by exact many_in (by assumption), fun z hz => ⟨z, hz, rfl⟩⟩)) (fun walk_v h_walk_v => s_le (ρ1 := [.da ((eL PyData.int) script), .mu true p_state (.any StOk), .da ((eT eQ) walk_v), .no, .no, .no, .no, .no, .no, .no, .no, .no, .no, .no, .no, .no, .no, .no, .no]) (le_rfl rfl) ?_))
    try dsimp only at h_walk_v
    have hw : WkOk walk_v := by obtain ⟨_, _, z⟩ := h_walk_v; exact z
    have hw1 := hw.1.1
    have hw2 := hw.1.2
    obtain ⟨many_v, h_many_v⟩ : ∃ z : Int, z = ((walk_v).length : Int) := ⟨_, rfl⟩
    obtain ⟨tops_v, h_tops_v⟩ : ∃ z : (List Rat), z = (topsF (walk_v)) := ⟨_, rfl⟩
    obtain ⟨steps_v, h_steps_v⟩ : ∃ z : (List Rat), z = (stepsF (walk_v)) := ⟨_, rfl⟩
    refine s_seq (s_asgG (ws := [3, 4, 5]) (ed_tup (ds := [(PyData.int ((walk_v).length : Int)), ((eT eQ) (topsF (walk_v))), ((eT eQ) (stepsF (walk_v)))]) (ea_cons (ed_lenTX (ed_var rfl)) (ea_cons (ed_call (ds := [((eT eQ) walk_v)]) (ea_cons (ed_var rfl) ea_nil) ⟨walk_v, rfl, by assumption, rfl⟩) (ea_cons (ed_call (ds := [((eT eQ) walk_v)]) (ea_cons (ed_var rfl) ea_nil) ⟨walk_v, rfl, by assumption, rfl⟩) ea_nil)))) (eg_tup (egs_cons (eg_name (by simp)) (egs_cons (eg_name (by simp)) (egs_cons (eg_name (by simp)) egs_nil)))) (s_le (ρ1 := [.da ((eL PyData.int) script), .mu true p_state (.any StOk), .da ((eT eQ) walk_v), .da (PyData.int many_v), .da ((eT eQ) tops_v), .da ((eT eQ) steps_v), .no, .no, .no, .no, .no, .no, .no, .no, .no, .no, .no, .no, .no]) (le_rfl (by subst h_many_v h_tops_v h_steps_v; rfl)) ?_))
    have hmv : many_v = (walk_v.length : Int) := h_many_v
    have htv : tops_v = topsF walk_v := h_tops_v
    have hsv : steps_v = stepsF walk_v := h_steps_v
    have htl : tops_v.length = walk_v.length + 2 := by rw [htv, tops_len]
    have hsl : steps_v.length = walk_v.length + 2 := by rw [hsv, steps_len]
    have hacc := acc_in hw
    refine s_seq (s_if (b := ((!(true)) || ((!decide (((topW (walk_v) (tops_v)).getD "") = (Str.ofString ""))) || (!decide (((stepW (walk_v) (steps_v)).getD "") = (Str.ofString "")))))) (et_or (et_not (et_truB (ed_call (ds := [((eT eQ) tops_v), ((eT eQ) (topsF (walk_v)))]) (ea_cons (ed_var rfl) (ea_cons (ed_call (ds := [((eT eQ) walk_v)]) (ea_cons (ed_var rfl) ea_nil) ⟨walk_v, rfl, by assumption, rfl⟩) ea_nil)) ⟨((eT eQ) tops_v), ((eT eQ) (topsF (walk_v))), rfl, by exact congrArg (eT eQ) htv, by rw [htv]; exact rows_gd (tops_qk hw) (by rw [tops_len]; omega), rfl⟩))) (fun hb12 => (et_or (et_test (ed_neS (ed_callRef (ds := [((eT eQ) walk_v), ((eT eQ) tops_v)]) G_accept_top (ea_cons (ed_var rfl) (ea_cons (ed_var rfl) ea_nil)) rfl ⟨_, ⟨walk_v, tops_v, rfl, by assumption, by omega, by rw [htv]; exact hacc.1, rfl⟩, rfl⟩) ed_str)) (fun hb11 => (et_test (ed_neS (ed_callRef (ds := [((eT eQ) walk_v), ((eT eQ) steps_v)]) G_accept_mean_steps (ea_cons (ed_var rfl) (ea_cons (ed_var rfl) ea_nil)) rfl ⟨_, ⟨walk_v, steps_v, rfl, by assumption, by omega, by rw [hsv]; exact hacc.2, rfl⟩, rfl⟩) ed_str)))))) (fun hc0 => ?_) (fun hc0 => ?_))
    · exact absurd hc0 (by rw [htv, hsv]; exact first_if hw)
    · refine s_next ?_
      refine s_seq (s_asgW (ew_drawD (i := 1) (ed_I0 (ed_var rfl) ed_int) rfl rfl (by omega)) (fun at_v h_at_v => s_le (ρ1 := [.da ((eL PyData.int) script), .mu true p_state (.any StOk), .da ((eT eQ) walk_v), .da (PyData.int many_v), .da ((eT eQ) tops_v), .da ((eT eQ) steps_v), .da (PyData.int at_v), .no, .no, .no, .no, .no, .no, .no, .no, .no, .no, .no, .no]) (le_rfl rfl) ?_))
      try dsimp only at h_at_v
      have hav : 0 ≤ at_v ∧ at_v < (walk_v.length : Int) + 2 := by omega
      refine s_seq (s_asg (ed_ite (e := PyData.str) (et_test (ed_inLI (ed_var rfl) (ed_L (el_lst (ds := [(0 : Int), (many_v + (1 : Int))].map PyData.int) (ea_cons ed_int (ea_cons (ed_I0 (ed_var rfl) ed_int) ea_nil)))))) (fun hb13 => ed_str) (fun hb13 => ed_str)) (s_le (ρ1 := [.da ((eL PyData.int) script), .mu true p_state (.any StOk), .da ((eT eQ) walk_v), .da (PyData.int many_v), .da ((eT eQ) tops_v), .da ((eT eQ) steps_v), .da (PyData.int at_v), .da (PyData.str (if (decide (at_v ∈ [(0 : Int), (many_v + (1 : Int))])) = true then (Str.ofString "end") else (Str.ofString "place"))), .no, .no, .no, .no, .no, .no, .no, .no, .no, .no, .no]) (le_rfl rfl) ?_))
      obtain ⟨more_v, h_more_v⟩ : ∃ z : (List (List Rat)), z = (([tops_v, steps_v]).map fun (x14 : (List Rat)) => (((cutX x14 none (some at_v)) ++ [((ixG x14 at_v) + qv (((1 : Int), (7 : Int))))]) ++ (cutX x14 (some (at_v + (1 : Int))) none))) := ⟨_, rfl⟩
      refine s_seq (s_asg (ed_L (el_lcAX (xs := [tops_v, steps_v]) (ea := fun x => Itm.hard ((eT eQ) x)) (enc := (fun l : List Rat => PyData.tuple (l.map eQ))) (fb := fun (x14 : (List Rat)) => (((cutX x14 none (some at_v)) ++ [((ixG x14 at_v) + qv (((1 : Int), (7 : Int))))]) ++ (cutX x14 (some (at_v + (1 : Int))) none))) (ei_listX (ed_L (el_lst (ds := [tops_v, steps_v].map (eT eQ)) (ea_cons (ed_var rfl) (ea_cons (ed_var rfl) ea_nil))))) (by first | (simp; done) | (simp; omega)) (by simp) (fun _ _ x14 hx14 => ⟨_, rfl, (eg_name (by simp)), (ed_catT (f := eQ) (l := ((cutX x14 none (some at_v)) ++ [((ixG x14 at_v) + qv (((1 : Int), (7 : Int))))])) (m := (cutX x14 (some (at_v + (1 : Int))) none)) (ed_catT (f := eQ) (l := (cutX x14 none (some at_v))) (m := [((ixG x14 at_v) + qv (((1 : Int), (7 : Int))))]) (ed_sliceT (ed_var rfl) eo_no (eo_some (ed_var rfl))) (ed_tup (ds := [(eQ ((ixG x14 at_v) + qv (((1 : Int), (7 : Int)))))]) (ea_cons (ed_is (ed_call (ds := [((eP PyData.int PyData.int) (qp (ixG x14 at_v))), ((eP PyData.int PyData.int) ((1 : Int), (7 : Int)))]) (ea_cons (ed_is (ed_ixTX (f := eQ) (l := x14) (ed_var rfl) (ed_var rfl) (by exact inb (by rcases mem2 (by assumption) with e | e <;> rw [e] <;> omega))) (rfl : _ = ((eP PyData.int PyData.int) (qp (ixG x14 at_v))))) (ea_cons (ed_tup (ds := [(PyData.int (1 : Int)), (PyData.int (7 : Int))]) (ea_cons ed_int (ea_cons ed_int ea_nil))) ea_nil)) ⟨(qp (ixG x14 at_v)), ((1 : Int), (7 : Int)), rfl, by exact bump_pb hw (by assumption) htv hsv hav, by exact pb_small (by decide) (by decide) (by decide), rfl⟩) (by simp only [qv_qp] : _ = (eQ ((ixG x14 at_v) + qv (((1 : Int), (7 : Int))))))) ea_nil)) (by obtain ⟨q1, q2⟩ := bsz (by assumption) htl hsl hw2 at_v; simp; omega)) (ed_sliceT (ed_var rfl) (eo_some (ed_I0 (ed_var rfl) ed_int)) eo_no) (by obtain ⟨q1, q2⟩ := bsz (by assumption) htl hsl hw2 at_v; simp; omega))⟩))) (s_le (ρ1 := [.da ((eL PyData.int) script), .mu true p_state (.any StOk), .da ((eT eQ) walk_v), .da (PyData.int many_v), .da ((eT eQ) tops_v), .da ((eT eQ) steps_v), .da (PyData.int at_v), .da (PyData.str (if (decide (at_v ∈ [(0 : Int), (many_v + (1 : Int))])) = true then (Str.ofString "end") else (Str.ofString "place"))), .da ((eL (eT eQ)) more_v), .no, .no, .no, .no, .no, .no, .no, .no, .no, .no]) (le_rfl (by subst h_more_v; rfl)) ?_))
      have hmo : more_v = [bumpL (topsF walk_v) at_v, bumpL (stepsF walk_v) at_v] := by rw [h_more_v, htv, hsv]; rfl
      have hbo := more_in hw hav
      refine s_seq (s_if (b := (!PyData.eqv ((eL PyData.str) [((topW (walk_v) ((ixG more_v (0 : Int)))).getD ""), ((stepW (walk_v) ((ixG more_v (1 : Int)))).getD "")]) ((eL PyData.str) ((List.replicate ((2 : Int)).toNat [(if (decide (at_v ∈ [(0 : Int), (many_v + (1 : Int))])) = true then (Str.ofString "end") else (Str.ofString "place"))]).flatten)))) (et_test (ed_ne (ed_L (el_lst (ds := [((topW (walk_v) ((ixG more_v (0 : Int)))).getD ""), ((stepW (walk_v) ((ixG more_v (1 : Int)))).getD "")].map PyData.str) (ea_cons (ed_callRef (ds := [((eT eQ) walk_v), ((eT eQ) (ixG more_v (0 : Int)))]) G_accept_top (ea_cons (ed_var rfl) (ea_cons (ed_ixLX (f := (fun l : List Rat => PyData.tuple (l.map eQ))) (l := more_v) (ed_var rfl) ed_int (by rw [hmo]; exact inb (by simp))) ea_nil)) rfl ⟨_, ⟨walk_v, (ixG more_v (0 : Int)), rfl, by assumption, by rw [hmo]; exact hbo.1, by rw [hmo]; exact hbo.2.2.1, rfl⟩, rfl⟩) (ea_cons (ed_callRef (ds := [((eT eQ) walk_v), ((eT eQ) (ixG more_v (1 : Int)))]) G_accept_mean_steps (ea_cons (ed_var rfl) (ea_cons (ed_ixLX (f := (fun l : List Rat => PyData.tuple (l.map eQ))) (l := more_v) (ed_var rfl) ed_int (by rw [hmo]; exact inb (by simp))) ea_nil)) rfl ⟨_, ⟨walk_v, (ixG more_v (1 : Int)), rfl, by assumption, by rw [hmo]; exact hbo.2.1, by rw [hmo]; exact hbo.2.2.2, rfl⟩, rfl⟩) ea_nil)))) (ed_L (el_rep (el_lst (ds := [(if (decide (at_v ∈ [(0 : Int), (many_v + (1 : Int))])) = true then (Str.ofString "end") else (Str.ofString "place"))].map PyData.str) (ea_cons (ed_var rfl) ea_nil)) (fun _ _ => ed_int) (by simp))) (by rw [hmo]; exact words_sh1 hw hav) (by rw [hmv]; exact words_sh2 _ _))) (fun hc1 => ?_) (fun hc1 => ?_))
      · exact absurd hc1 (by rw [hmo, hmv]; exact more_if hw hav)
      · refine s_next ?_
        obtain ⟨back_v, h_back_v⟩ : ∃ z : (List Rat), z = (((walk_v).reverse).map fun (x15 : Rat) => (1 - (x15))) := ⟨_, rfl⟩
        refine s_seq (s_asg (ed_tupleL (ed_L (el_lcAX (xs := (walk_v).reverse) (ea := fun x => Itm.hard (eQ x)) (enc := eQ) (fb := fun (x15 : Rat) => (1 - (x15))) (ei_tupX (ed_revT (ed_var rfl))) (by first | (simp; done) | (simp; omega)) (by simp) (fun _ _ x15 hx15 => ⟨_, rfl, (eg_name (by simp)), (ed_call (ds := [(eQ x15)]) (ea_cons (ed_var rfl) ea_nil) ⟨x15, rfl, rfl⟩)⟩)))) (s_le (ρ1 := [.da ((eL PyData.int) script), .mu true p_state (.any StOk), .da ((eT eQ) walk_v), .da (PyData.int many_v), .da ((eT eQ) tops_v), .da ((eT eQ) steps_v), .da (PyData.int at_v), .da (PyData.str (if (decide (at_v ∈ [(0 : Int), (many_v + (1 : Int))])) = true then (Str.ofString "end") else (Str.ofString "place"))), .da ((eL (eT eQ)) more_v), .no, .da ((eT eQ) back_v), .no, .no, .no, .no, .no, .no, .no, .no]) (le_rfl (by subst h_back_v; rfl)) ?_))
        have hbv : back_v = backF walk_v := h_back_v
        have hbw : WkOk back_v := hbv ▸ back_ok hw
        refine s_seq (s_if (b := (!(true))) (et_not (et_truB (ed_call (ds := [((eL (eT eQ)) [(topsF (back_v)), (stepsF (back_v))]), ((eL (eT eQ)) [(((tops_v).reverse).map fun (x16 : Rat) => (1 - (x16))), (steps_v).reverse])]) (ea_cons (ed_L (el_lst (ds := [(topsF (back_v)), (stepsF (back_v))].map (eT eQ)) (ea_cons (ed_call (ds := [((eT eQ) back_v)]) (ea_cons (ed_var rfl) ea_nil) ⟨back_v, rfl, by assumption, rfl⟩) (ea_cons (ed_call (ds := [((eT eQ) back_v)]) (ea_cons (ed_var rfl) ea_nil) ⟨back_v, rfl, by assumption, rfl⟩) ea_nil)))) (ea_cons (ed_L (el_lst (ds := [(((tops_v).reverse).map fun (x16 : Rat) => (1 - (x16))), (steps_v).reverse].map (eT eQ)) (ea_cons (ed_tupleL (ed_L (el_lcAX (xs := (tops_v).reverse) (ea := fun x => Itm.hard (eQ x)) (enc := eQ) (fb := fun (x16 : Rat) => (1 - (x16))) (ei_tupX (ed_revT (ed_var rfl))) (by first | (simp; done) | (simp; omega)) (by simp) (fun _ _ x16 hx16 => ⟨_, rfl, (eg_name (by simp)), (ed_call (ds := [(eQ x16)]) (ea_cons (ed_var rfl) ea_nil) ⟨x16, rfl, rfl⟩)⟩)))) (ea_cons (ed_revT (ed_var rfl)) ea_nil)))) ea_nil)) ⟨((eL (eT eQ)) [(topsF (back_v)), (stepsF (back_v))]), ((eL (eT eQ)) [(((tops_v).reverse).map fun (x16 : Rat) => (1 - (x16))), (steps_v).reverse]), rfl, by rw [hbv, htv, hsv, back_tops hw, back_steps hw], by exact two_gd (tops_qk hbw) (steps_qk hbw) (by rw [tops_len]; have := hbw.1.2; omega) (by rw [steps_len]; have := hbw.1.2; omega), rfl⟩))) (fun hc2 => ?_) (fun hc2 => ?_))
        · exact absurd hc2 (by decide)
        · refine s_next ?_
          refine s_seq (s_asgW (ew_op (e := PyData.int) (F := (fun _ y18 => ((1 : Int) + y18))) (ew_det (f := PyData.int) (x := (1 : Int)) ed_int) (ew_drawD (i := 1) (ed_var rfl) rfl rfl (by omega)) (fun x17 y18 hx19 hy20 _ _ _ ha21 hb22 => by have hx19 := Eq.symm hx19; subst hx19; exact (ed_I0 ha21 hb22))) (fun cut_v h_cut_v => s_le (ρ1 := [.da ((eL PyData.int) script), .mu true p_state (.any StOk), .da ((eT eQ) walk_v), .da (PyData.int many_v), .da ((eT eQ) tops_v), .da ((eT eQ) steps_v), .da (PyData.int at_v), .da (PyData.str (if (decide (at_v ∈ [(0 : Int), (many_v + (1 : Int))])) = true then (Str.ofString "end") else (Str.ofString "place"))), .da ((eL (eT eQ)) more_v), .no, .da ((eT eQ) back_v), .no, .da (PyData.int cut_v), .no, .no, .no, .no, .no, .no]) (le_rfl rfl) ?_))
          try dsimp only at h_cut_v
          have hcv : 1 ≤ cut_v ∧ cut_v ≤ (walk_v.length : Int) := by obtain ⟨a, b, h1, h2, h3⟩ := h_cut_v; omega
          obtain ⟨first_v, h_first_v⟩ : ∃ z : (List Rat), z = (if (decide ((1 : Int) < cut_v)) = true then (topsF ((cutX walk_v none (some (cut_v - (1 : Int)))))) else [(0 : Rat), (1 : Rat)]) := ⟨_, rfl⟩
          refine s_seq (s_asg (ed_ite (e := (eT eQ)) (et_test (ed_B0 (ed_var rfl) ed_int)) (fun hb24 => (ed_call (ds := [((eT eQ) (cutX walk_v none (some (cut_v - (1 : Int)))))]) (ea_cons (ed_sliceT (ed_var rfl) eo_no (eo_some (ed_I0 (ed_var rfl) ed_int))) ea_nil) ⟨(cutX walk_v none (some (cut_v - (1 : Int)))), rfl, by exact cut_ok hw hcv (by assumption), rfl⟩)) (fun hb24 => (ed_tup (ds := [(eQ (0 : Rat)), (eQ (1 : Rat))]) (ea_cons (ed_is (d1 := eQ (0 : Rat)) (ed_tup (ds := [PyData.int (0 : Int), PyData.int (1 : Int)]) (ea_cons ed_int (ea_cons ed_int ea_nil))) (by rfl)) (ea_cons (ed_is (d1 := eQ (1 : Rat)) (ed_tup (ds := [PyData.int (1 : Int), PyData.int (1 : Int)]) (ea_cons ed_int (ea_cons ed_int ea_nil))) (by rfl)) ea_nil))))) (s_le (ρ1 := [.da ((eL PyData.int) script), .mu true p_state (.any StOk), .da ((eT eQ) walk_v), .da (PyData.int many_v), .da ((eT eQ) tops_v), .da ((eT eQ) steps_v), .da (PyData.int at_v), .da (PyData.str (if (decide (at_v ∈ [(0 : Int), (many_v + (1 : Int))])) = true then (Str.ofString "end") else (Str.ofString "place"))), .da ((eL (eT eQ)) more_v), .no, .da ((eT eQ) back_v), .no, .da (PyData.int cut_v), .da ((eT eQ) first_v), .no, .no, .no, .no, .no]) (le_rfl (by subst h_first_v; rfl)) ?_))
          have hfv : first_v = firstF walk_v cut_v := h_first_v
          refine s_seq (s_if (b := (!(((((List.range ((cut_v + (1 : Int))).toNat)).filter fun (x25 : Nat) => (!decide (((ixG first_v (x25 : Int)) * (ixG tops_v cut_v)) = (ixG tops_v (x25 : Int))))).map fun (x25 : Nat) => (x25 : Int))).isEmpty)) (et_truL (ed_L (el_lcPX (xs := (List.range ((cut_v + (1 : Int))).toNat)) (ea := fun (i : Nat) => Itm.hard (PyData.int (i : Int))) (p := fun (x25 : Nat) => (!decide (((ixG first_v (x25 : Int)) * (ixG tops_v cut_v)) = (ixG tops_v (x25 : Int))))) (enc := PyData.int) (fb := fun (x25 : Nat) => (x25 : Int)) (ei_rng (ed_I0 (ed_var rfl) ed_int) (by omega)) (by first | (simp; done) | (simp; omega)) (by simp) (fun _ _ x25 hx25 => ⟨_, rfl, (eg_name (by simp)), (et_test (ed_neQ (ed_is (ed_call (ds := [((eP PyData.int PyData.int) (qp (ixG first_v (x25 : Int)))), ((eP PyData.int PyData.int) (qp (ixG tops_v cut_v)))]) (ea_cons (ed_is (ed_ixTX (f := eQ) (l := first_v) (ed_var rfl) (ed_var rfl) (by exact first_ix hw hcv hfv (by assumption))) (rfl : _ = ((eP PyData.int PyData.int) (qp (ixG first_v (x25 : Int)))))) (ea_cons (ed_is (ed_ixTX (f := eQ) (l := tops_v) (ed_var rfl) (ed_var rfl) (by exact inb (by first | omega | (have := List.mem_range.mp (by assumption); omega)))) (rfl : _ = ((eP PyData.int PyData.int) (qp (ixG tops_v cut_v))))) ea_nil)) ⟨(qp (ixG first_v (x25 : Int))), (qp (ixG tops_v cut_v)), rfl, by rw [hfv]; exact first_pb hw hcv (by assumption), by rw [htv]; exact tops_pb hw (by omega), rfl⟩) (by simp only [qv_qp] : _ = (eQ ((ixG first_v (x25 : Int)) * (ixG tops_v cut_v))))) (ed_ixTX (f := eQ) (l := tops_v) (ed_var rfl) (ed_var rfl) (by exact inb (by first | omega | (have := List.mem_range.mp (by assumption); omega)))))), fun hp26 => (ed_var rfl)⟩)))) (fun hc3 => ?_) (fun hc3 => ?_))
          · exact absurd hc3 (by rw [hfv, htv]; exact cut_if hw hcv)
          · refine s_next ?_
            refine s_seq (s_forX ((List.range ((2 : Int)).toNat)) (fun (i : Nat) => Itm.hard (PyData.int (i : Int))) (ei_rng ed_int (by omega)) (fun i0 => [.da ((eL PyData.int) script), .mu true p_state (.any StOk), .da ((eT eQ) walk_v), .da (PyData.int many_v), .da ((eT eQ) tops_v), .da ((eT eQ) steps_v), .da (PyData.int at_v), .da (PyData.str (if (decide (at_v ∈ [(0 : Int), (many_v + (1 : Int))])) = true then (Str.ofString "end") else (Str.ofString "place"))), .da ((eL (eT eQ)) more_v), .no, .da ((eT eQ) back_v), .no, .da (PyData.int cut_v), .da ((eT eQ) first_v), .no, .no, .no, .no, .no]) (le_same (le_same (le_same (le_same (le_same (le_same (le_same (le_same (le_same (le_no (le_same (le_no (le_same (le_same (le_no (le_no (le_no (le_no (le_no le_nil))))))))))))))))))) (fun T0 hT0 i0 x0 hx0 => ⟨_, [15], (eg_name (by simp)), ?_⟩) ?_)
            · show Ss _ _ [.da ((eL PyData.int) script), .mu true p_state (.any StOk), .da ((eT eQ) walk_v), .da (PyData.int many_v), .da ((eT eQ) tops_v), .da ((eT eQ) steps_v), .da (PyData.int at_v), .da (PyData.str (if (decide (at_v ∈ [(0 : Int), (many_v + (1 : Int))])) = true then (Str.ofString "end") else (Str.ofString "place"))), .da ((eL (eT eQ)) more_v), .no, .da ((eT eQ) back_v), .no, .da (PyData.int cut_v), .da ((eT eQ) first_v), .no, .da (PyData.int (x0 : Int)), .no, .no, .no] _ _
              refine s_seq (s_parW (ew_drawD (i := 1) (ed_I0 (ed_var rfl) ed_int) rfl rfl (by omega)) (ew_draw (i := 1) (ew_pickLD (i := 1) (ed_L (el_lst (ds := [(7 : Int), (7 : Int), (41 : Int)].map PyData.int) (ea_cons ed_int (ea_cons ed_int (ea_cons ed_int ea_nil))))) rfl rfl (by simp)) rfl rfl (by intro m hm; simp at hm; omega)) (fun place_v time_v h_place_v h_time_v => s_le (ρ1 := [.da ((eL PyData.int) script), .mu true p_state (.any StOk), .da ((eT eQ) walk_v), .da (PyData.int many_v), .da ((eT eQ) tops_v), .da ((eT eQ) steps_v), .da (PyData.int at_v), .da (PyData.str (if (decide (at_v ∈ [(0 : Int), (many_v + (1 : Int))])) = true then (Str.ofString "end") else (Str.ofString "place"))), .da ((eL (eT eQ)) more_v), .no, .da ((eT eQ) back_v), .no, .da (PyData.int cut_v), .da ((eT eQ) first_v), .no, .da (PyData.int (x0 : Int)), .da (PyData.int place_v), .da (PyData.int time_v), .no]) (le_rfl rfl) ?_))
              try dsimp only at h_place_v
              have hpl : 0 ≤ place_v ∧ place_v ≤ (walk_v.length : Int) + 1 := by omega
              try dsimp only at h_time_v
              have htm : 0 ≤ time_v ∧ time_v ≤ 40 := by obtain ⟨m, hm1, hm2⟩ := h_time_v; simp at hm1; omega
              refine s_seq (s_asg (ed_call (ds := [((eT eQ) walk_v), (PyData.int place_v), (PyData.int time_v)]) (ea_cons (ed_var rfl) (ea_cons (ed_var rfl) (ea_cons (ed_var rfl) ea_nil))) ⟨walk_v, place_v, time_v, rfl, by assumption, by assumption, by assumption, rfl⟩) (s_le (ρ1 := [.da ((eL PyData.int) script), .mu true p_state (.any StOk), .da ((eT eQ) walk_v), .da (PyData.int many_v), .da ((eT eQ) tops_v), .da ((eT eQ) steps_v), .da (PyData.int at_v), .da (PyData.str (if (decide (at_v ∈ [(0 : Int), (many_v + (1 : Int))])) = true then (Str.ofString "end") else (Str.ofString "place"))), .da ((eL (eT eQ)) more_v), .no, .da ((eT eQ) back_v), .no, .da (PyData.int cut_v), .da ((eT eQ) first_v), .no, .da (PyData.int (x0 : Int)), .da (PyData.int place_v), .da (PyData.int time_v), .da ((eT eQ) (behF (walk_v) (place_v).toNat (time_v).toNat))]) (le_rfl rfl) ?_))
              refine s_seq (s_if (b := ((!decide ((((false, (behF (walk_v) (place_v).toNat (time_v).toNat))).2.sum) = (1 : Rat))) || (!decide ((meanF ((behF (walk_v) (place_v).toNat (time_v).toNat)) (tops_v)) = (ixG tops_v place_v))))) (et_or (et_test (ed_neQ (ed_call (ds := [((eS eQ) (false, (behF (walk_v) (place_v).toNat (time_v).toNat)))]) (ea_cons (ed_is (ed_var rfl) (rfl : _ = ((eS eQ) (false, (behF (walk_v) (place_v).toNat (time_v).toNat))))) ea_nil) ⟨(false, (behF (walk_v) (place_v).toNat (time_v).toNat)), rfl, by exact beh_pre hw (by omega) (fun r h => h) (by rw [beh_len]; omega), rfl⟩) (ed_is (d1 := eQ (1 : Rat)) (ed_tup (ds := [PyData.int (1 : Int), PyData.int (1 : Int)]) (ea_cons ed_int (ea_cons ed_int ea_nil))) (by rfl)))) (fun hb28 => (et_test (ed_neQ (ed_call (ds := [((eT eQ) (behF (walk_v) (place_v).toNat (time_v).toNat)), ((eT eQ) tops_v)]) (ea_cons (ed_var rfl) (ea_cons (ed_var rfl) ea_nil)) ⟨(behF (walk_v) (place_v).toNat (time_v).toNat), tops_v, rfl, by rw [beh_len]; omega, by rw [htv]; exact mean_ok_tops hw (by omega), rfl⟩) (ed_ixTX (f := eQ) (l := tops_v) (ed_var rfl) (ed_var rfl) (by exact inb (by first | omega | (have := List.mem_range.mp (by assumption); omega)))))))) (fun hc4 => ?_) (fun hc4 => ?_))
              · exact absurd hc4 (by rw [htv]; exact turn_if hw hpl _)
              · refine s_next ?_
                refine (s_ifW (A := (fun b => ((fun b => b = (decide (time_v < (8 : Int)))) false ∧ b = false) ∨ ((fun b => b = (decide (time_v < (8 : Int)))) true ∧ (fun b => (fun z => z = true) (!b)) b))) (ewt_and (ewt_det (et_test (ed_B0 (ed_var rfl) ed_int))) (fun hb29 => (ewt_not (ewt_tru (R := (fun z => z = true)) (ew_callWD (i := 1) (e := PyData.bool) (P3 := (fun z => z = true)) (ds := [((eT eQ) walk_v), (PyData.int place_v), (PyData.int time_v), ((eT eQ) (behF (walk_v) (place_v).toNat (time_v).toNat)), ((eT eQ) steps_v)]) (ea_raw rfl (ea_cons (ed_var rfl) (ea_cons (ed_var rfl) (ea_cons (ed_var rfl) (ea_cons (ed_var rfl) (ea_cons (ed_var rfl) ea_nil)))))) rfl ⟨walk_v, place_v, time_v, (behF (walk_v) (place_v).toNat (time_v).toNat), steps_v, rfl, by assumption, by assumption, by have := of_decide_eq_true (by assumption : true = decide (time_v < 8)).symm; omega, by rfl, by exact hsv, fun z hz => ⟨z, hz, rfl⟩⟩) (fun _ _ => rfl) (fun _ h => h))))) (fun hc5 => ?_) (fun hc5 => ?_))
                · exfalso
                  try dsimp only at hc5
                  simp at hc5
                · try dsimp only at hc5
                  refine s_next ?_
                  exact s_end (le_same (le_same (le_same (le_same (le_same (le_same (le_same (le_same (le_same (le_no (le_same (le_no (le_same (le_same (le_no (le_no (le_no (le_no (le_no le_nil)))))))))))))))))))
            exact s_retP (ew_det (f := PyData.bool) (x := true) ed_bl) (fun x hx => by subst hx; exact hR)


/-! ### what the top has written; the law -/
theorem all_mk {l : PySem.W.OpenLaw} {w : World} {K : PySem.W.Frag} {h : Heap} {mg : Str → Option Value} {fa f0 f1 f2 f3 f4 f5 f6 f7 f8 f9 f10 f11 f12 f13 f14 f15 f16 f17 f18 f19 f20 f21 f22 f23 f24 f25 f26 f27 f28 f29 f30 f31 f32 f33 f34 : Addr} {od0 an0 od1 an1 od2 an2 od3 an3 od4 an4 od5 an5 od6 an6 od7 an7 od8 an8 od9 an9 od10 an10 od11 an11 od12 an12 od13 an13 od14 an14 od15 an15 od16 an16 od17 an17 od18 an18 od19 an19 od20 an20 od21 an21 od22 an22 od23 an23 od24 an24 od25 an25 od26 an26 od27 an27 od28 an28 od29 an29 od30 an30 od31 an31 od32 an32 od33 an33 od34 an34 : Option Addr} {sl0 sl1 sl2 sl3 sl4 sl5 sl6 sl7 sl8 sl9 sl10 sl11 sl12 sl13 sl14 sl15 sl16 sl17 sl18 sl19 sl20 sl21 sl22 sl23 sl24 sl25 sl26 sl27 sl28 sl29 sl30 sl31 sl32 sl33 sl34 : Array (Option Value)} {oc0 kV0 dc0 pm0 cd0 ct0 oc1 kV1 dc1 pm1 cd1 ct1 oc2 kV2 dc2 pm2 cd2 ct2 oc3 kV3 dc3 pm3 cd3 ct3 oc4 kV4 dc4 pm4 cd4 ct4 oc5 kV5 dc5 pm5 cd5 ct5 oc6 kV6 dc6 pm6 cd6 ct6 oc7 kV7 dc7 pm7 cd7 ct7 oc8 kV8 dc8 pm8 cd8 ct8 oc9 kV9 dc9 pm9 cd9 ct9 oc10 kV10 dc10 pm10 cd10 ct10 oc11 kV11 dc11 pm11 cd11 ct11 oc12 kV12 dc12 pm12 cd12 ct12 oc13 kV13 dc13 pm13 cd13 ct13 oc14 kV14 dc14 pm14 cd14 ct14 oc15 kV15 dc15 pm15 cd15 ct15 oc16 kV16 dc16 pm16 cd16 ct16 oc17 kV17 dc17 pm17 cd17 ct17 oc18 kV18 dc18 pm18 cd18 ct18 oc19 kV19 dc19 pm19 cd19 ct19 oc20 kV20 dc20 pm20 cd20 ct20 oc21 kV21 dc21 pm21 cd21 ct21 oc22 kV22 dc22 pm22 cd22 ct22 oc23 kV23 dc23 pm23 cd23 ct23 oc24 kV24 dc24 pm24 cd24 ct24 oc25 kV25 dc25 pm25 cd25 ct25 oc26 kV26 dc26 pm26 cd26 ct26 oc27 kV27 dc27 pm27 cd27 ct27 oc28 kV28 dc28 pm28 cd28 ct28 oc29 kV29 dc29 pm29 cd29 ct29 oc30 kV30 dc30 pm30 cd30 ct30 oc31 kV31 dc31 pm31 cd31 ct31 oc32 kV32 dc32 pm32 cd32 ct32 oc33 kV33 dc33 pm33 cd33 ct33 oc34 kV34 dc34 pm34 cd34 ct34 : Value} {C C0 fI cda cc N_ : Addr} {oc_ kV_ dc_ pm_ ct_ ccl_ cl_ : Value} {od_ an_ cdd_ cld_ dd_ : Option Addr} {sl_ ccs_ csl_ : Array (Option Value)} {vs_ : Array Value} {file_ : Str} {tf_ : Tok} {cd_ : ClassData} {nm_ q_ : Str} {bs_ bm_ sub_ : List Value} {sn_ : List Str} {ab_ : Bool} {col_ : Option Bool} {k0_ k1_ k2_ k3_ k5_ : Option Value} (X : K.In h) (G : h.Ns mainGlobals mg) (hfa : mg "law" = some (.ref fa))
    (a0 : PySem.W.nsIn K mainGlobals "_law_start" = some (some (.ref f0))) (l0 : K.lookup f0 = some ⟨oc0, od0, .func (PySem.W.fnOf "_law_start" "_law_start" (defArgs s_law_start) (defBody s_law_start) (defScope s_law_start) .none kV0 dc0 pm0 an0 cd0 ct0), sl0⟩) (c0 : PySem.W.codeIn K cd0 "_law_start" = true) (k0 : PySem.W.keepIn K (.ref f0) = true)
    (a1 : PySem.W.nsIn K mainGlobals "_law_draw" = some (some (.ref f1))) (l1 : K.lookup f1 = some ⟨oc1, od1, .func (PySem.W.fnOf "_law_draw" "_law_draw" (defArgs s_law_draw) (defBody s_law_draw) (defScope s_law_draw) .none kV1 dc1 pm1 an1 cd1 ct1), sl1⟩) (c1 : PySem.W.codeIn K cd1 "_law_draw" = true) (k1 : PySem.W.keepIn K (.ref f1) = true)
    (a2 : PySem.W.nsIn K mainGlobals "_law_pick" = some (some (.ref f2))) (l2 : K.lookup f2 = some ⟨oc2, od2, .func (PySem.W.fnOf "_law_pick" "_law_pick" (defArgs s_law_pick) (defBody s_law_pick) (defScope s_law_pick) .none kV2 dc2 pm2 an2 cd2 ct2), sl2⟩) (c2 : PySem.W.codeIn K cd2 "_law_pick" = true) (k2 : PySem.W.keepIn K (.ref f2) = true)
    (a3 : PySem.W.nsIn K mainGlobals "is_integer" = some (some (.ref f3))) (l3 : K.lookup f3 = some ⟨oc3, od3, .func (PySem.W.fnOf "is_integer" "is_integer" (defArgs s_is_integer) (defBody s_is_integer) (defScope s_is_integer) .none kV3 dc3 pm3 an3 cd3 ct3), sl3⟩) (c3 : PySem.W.codeIn K cd3 "is_integer" = true) (k3 : PySem.W.keepIn K (.ref f3) = true)
    (a4 : PySem.W.nsIn K mainGlobals "greatest_divisor" = some (some (.ref f4))) (l4 : K.lookup f4 = some ⟨oc4, od4, .func (PySem.W.fnOf "greatest_divisor" "greatest_divisor" (defArgs s_greatest_divisor) (defBody s_greatest_divisor) (defScope s_greatest_divisor) .none kV4 dc4 pm4 an4 cd4 ct4), sl4⟩) (c4 : PySem.W.codeIn K cd4 "greatest_divisor" = true) (k4 : PySem.W.keepIn K (.ref f4) = true)
    (a5 : PySem.W.nsIn K mainGlobals "quotient" = some (some (.ref f5))) (l5 : K.lookup f5 = some ⟨oc5, od5, .func (PySem.W.fnOf "quotient" "quotient" (defArgs s_quotient) (defBody s_quotient) (defScope s_quotient) .none kV5 dc5 pm5 an5 cd5 ct5), sl5⟩) (c5 : PySem.W.codeIn K cd5 "quotient" = true) (k5 : PySem.W.keepIn K (.ref f5) = true)
    (a6 : PySem.W.nsIn K mainGlobals "plus" = some (some (.ref f6))) (l6 : K.lookup f6 = some ⟨oc6, od6, .func (PySem.W.fnOf "plus" "plus" (defArgs s_plus) (defBody s_plus) (defScope s_plus) .none kV6 dc6 pm6 an6 cd6 ct6), sl6⟩) (c6 : PySem.W.codeIn K cd6 "plus" = true) (k6 : PySem.W.keepIn K (.ref f6) = true)
    (a7 : PySem.W.nsIn K mainGlobals "minus" = some (some (.ref f7))) (l7 : K.lookup f7 = some ⟨oc7, od7, .func (PySem.W.fnOf "minus" "minus" (defArgs s_minus) (defBody s_minus) (defScope s_minus) .none kV7 dc7 pm7 an7 cd7 ct7), sl7⟩) (c7 : PySem.W.codeIn K cd7 "minus" = true) (k7 : PySem.W.keepIn K (.ref f7) = true)
    (a8 : PySem.W.nsIn K mainGlobals "times" = some (some (.ref f8))) (l8 : K.lookup f8 = some ⟨oc8, od8, .func (PySem.W.fnOf "times" "times" (defArgs s_times) (defBody s_times) (defScope s_times) .none kV8 dc8 pm8 an8 cd8 ct8), sl8⟩) (c8 : PySem.W.codeIn K cd8 "times" = true) (k8 : PySem.W.keepIn K (.ref f8) = true)
    (a9 : PySem.W.nsIn K mainGlobals "over" = some (some (.ref f9))) (l9 : K.lookup f9 = some ⟨oc9, od9, .func (PySem.W.fnOf "over" "over" (defArgs s_over) (defBody s_over) (defScope s_over) .none kV9 dc9 pm9 an9 cd9 ct9), sl9⟩) (c9 : PySem.W.codeIn K cd9 "over" = true) (k9 : PySem.W.keepIn K (.ref f9) = true)
    (a10 : PySem.W.nsIn K mainGlobals "is_quotient" = some (some (.ref f10))) (l10 : K.lookup f10 = some ⟨oc10, od10, .func (PySem.W.fnOf "is_quotient" "is_quotient" (defArgs s_is_quotient) (defBody s_is_quotient) (defScope s_is_quotient) .none kV10 dc10 pm10 an10 cd10 ct10), sl10⟩) (c10 : PySem.W.codeIn K cd10 "is_quotient" = true) (k10 : PySem.W.keepIn K (.ref f10) = true)
    (a11 : PySem.W.nsIn K mainGlobals "is_step" = some (some (.ref f11))) (l11 : K.lookup f11 = some ⟨oc11, od11, .func (PySem.W.fnOf "is_step" "is_step" (defArgs s_is_step) (defBody s_is_step) (defScope s_is_step) .none kV11 dc11 pm11 an11 cd11 ct11), sl11⟩) (c11 : PySem.W.codeIn K cd11 "is_step" = true) (k11 : PySem.W.keepIn K (.ref f11) = true)
    (a12 : PySem.W.nsIn K mainGlobals "check_walk" = some (some (.ref f12))) (l12 : K.lookup f12 = some ⟨oc12, od12, .func (PySem.W.fnOf "check_walk" "check_walk" (defArgs s_check_walk) (defBody s_check_walk) (defScope s_check_walk) .none kV12 dc12 pm12 an12 cd12 ct12), sl12⟩) (c12 : PySem.W.codeIn K cd12 "check_walk" = true) (k12 : PySem.W.keepIn K (.ref f12) = true)
    (a13 : PySem.W.nsIn K mainGlobals "check_place" = some (some (.ref f13))) (l13 : K.lookup f13 = some ⟨oc13, od13, .func (PySem.W.fnOf "check_place" "check_place" (defArgs s_check_place) (defBody s_check_place) (defScope s_check_place) .none kV13 dc13 pm13 an13 cd13 ct13), sl13⟩) (c13 : PySem.W.codeIn K cd13 "check_place" = true) (k13 : PySem.W.keepIn K (.ref f13) = true)
    (a14 : PySem.W.nsIn K mainGlobals "down_of" = some (some (.ref f14))) (l14 : K.lookup f14 = some ⟨oc14, od14, .func (PySem.W.fnOf "down_of" "down_of" (defArgs s_down_of) (defBody s_down_of) (defScope s_down_of) .none kV14 dc14 pm14 an14 cd14 ct14), sl14⟩) (c14 : PySem.W.codeIn K cd14 "down_of" = true) (k14 : PySem.W.keepIn K (.ref f14) = true)
    (a15 : PySem.W.nsIn K mainGlobals "top_chances" = some (some (.ref f15))) (l15 : K.lookup f15 = some ⟨oc15, od15, .func (PySem.W.fnOf "top_chances" "top_chances" (defArgs s_top_chances) (defBody s_top_chances) (defScope s_top_chances) .none kV15 dc15 pm15 an15 cd15 ct15), sl15⟩) (c15 : PySem.W.codeIn K cd15 "top_chances" = true) (k15 : PySem.W.keepIn K (.ref f15) = true)
    (a16 : PySem.W.nsIn K mainGlobals "mean_of" = some (some (.ref f16))) (l16 : K.lookup f16 = some ⟨oc16, od16, .func (PySem.W.fnOf "mean_of" "mean_of" (defArgs s_mean_of) (defBody s_mean_of) (defScope s_mean_of) .none kV16 dc16 pm16 an16 cd16 ct16), sl16⟩) (c16 : PySem.W.codeIn K cd16 "mean_of" = true) (k16 : PySem.W.keepIn K (.ref f16) = true)
    (a17 : PySem.W.nsIn K mainGlobals "check_row" = some (some (.ref f17))) (l17 : K.lookup f17 = some ⟨oc17, od17, .func (PySem.W.fnOf "check_row" "check_row" (defArgs s_check_row) (defBody s_check_row) (defScope s_check_row) .none kV17 dc17 pm17 an17 cd17 ct17), sl17⟩) (c17 : PySem.W.codeIn K cd17 "check_row" = true) (k17 : PySem.W.keepIn K (.ref f17) = true)
    (a18 : PySem.W.nsIn K mainGlobals "mean_steps" = some (some (.ref f18))) (l18 : K.lookup f18 = some ⟨oc18, od18, .func (PySem.W.fnOf "mean_steps" "mean_steps" (defArgs s_mean_steps) (defBody s_mean_steps) (defScope s_mean_steps) .none kV18 dc18 pm18 an18 cd18 ct18), sl18⟩) (c18 : PySem.W.codeIn K cd18 "mean_steps" = true) (k18 : PySem.W.keepIn K (.ref f18) = true)
    (a19 : PySem.W.nsIn K mainGlobals "accept_top" = some (some (.ref f19))) (l19 : K.lookup f19 = some ⟨oc19, od19, .func (PySem.W.fnOf "accept_top" "accept_top" (defArgs s_accept_top) (defBody s_accept_top) (defScope s_accept_top) .none kV19 dc19 pm19 an19 cd19 ct19), sl19⟩) (c19 : PySem.W.codeIn K cd19 "accept_top" = true) (k19 : PySem.W.keepIn K (.ref f19) = true)
    (a20 : PySem.W.nsIn K mainGlobals "accept_mean_steps" = some (some (.ref f20))) (l20 : K.lookup f20 = some ⟨oc20, od20, .func (PySem.W.fnOf "accept_mean_steps" "accept_mean_steps" (defArgs s_accept_mean_steps) (defBody s_accept_mean_steps) (defScope s_accept_mean_steps) .none kV20 dc20 pm20 an20 cd20 ct20), sl20⟩) (c20 : PySem.W.codeIn K cd20 "accept_mean_steps" = true) (k20 : PySem.W.keepIn K (.ref f20) = true)
    (a21 : PySem.W.nsIn K mainGlobals "_law_refused" = some (some (.ref f21))) (l21 : K.lookup f21 = some ⟨oc21, od21, .func (PySem.W.fnOf "_law_refused" "_law_refused" (defArgs s_law_refused_accept_top) (defBody s_law_refused_accept_top) (defScope s_law_refused_accept_top) .none kV21 dc21 pm21 an21 cd21 ct21), sl21⟩) (c21 : PySem.W.codeIn K cd21 "_law_refused" = true) (k21 : PySem.W.keepIn K (.ref f21) = true)
    (a22 : PySem.W.nsIn K mainGlobals "_law_refused" = some (some (.ref f22))) (l22 : K.lookup f22 = some ⟨oc22, od22, .func (PySem.W.fnOf "_law_refused" "_law_refused" (defArgs s_law_refused_accept_mean_steps) (defBody s_law_refused_accept_mean_steps) (defScope s_law_refused_accept_mean_steps) .none kV22 dc22 pm22 an22 cd22 ct22), sl22⟩) (c22 : PySem.W.codeIn K cd22 "_law_refused" = true) (k22 : PySem.W.keepIn K (.ref f22) = true)
    (a23 : PySem.W.nsIn K mainGlobals "places_behind" = some (some (.ref f23))) (l23 : K.lookup f23 = some ⟨oc23, od23, .func (PySem.W.fnOf "places_behind" "places_behind" (defArgs s_places_behind) (defBody s_places_behind) (defScope s_places_behind) .none kV23 dc23 pm23 an23 cd23 ct23), sl23⟩) (c23 : PySem.W.codeIn K cd23 "places_behind" = true) (k23 : PySem.W.keepIn K (.ref f23) = true)
    (a24 : PySem.W.nsIn K mainGlobals "_law_q" = some (some (.ref f24))) (l24 : K.lookup f24 = some ⟨oc24, od24, .func (PySem.W.fnOf "_law_q" "_law_q" (defArgs s_law_q) (defBody s_law_q) (defScope s_law_q) .none kV24 dc24 pm24 an24 cd24 ct24), sl24⟩) (c24 : PySem.W.codeIn K cd24 "_law_q" = true) (k24 : PySem.W.keepIn K (.ref f24) = true)
    (a25 : PySem.W.nsIn K mainGlobals "_law_add" = some (some (.ref f25))) (l25 : K.lookup f25 = some ⟨oc25, od25, .func (PySem.W.fnOf "_law_add" "_law_add" (defArgs s_law_add) (defBody s_law_add) (defScope s_law_add) .none kV25 dc25 pm25 an25 cd25 ct25), sl25⟩) (c25 : PySem.W.codeIn K cd25 "_law_add" = true) (k25 : PySem.W.keepIn K (.ref f25) = true)
    (a26 : PySem.W.nsIn K mainGlobals "_law_mul" = some (some (.ref f26))) (l26 : K.lookup f26 = some ⟨oc26, od26, .func (PySem.W.fnOf "_law_mul" "_law_mul" (defArgs s_law_mul) (defBody s_law_mul) (defScope s_law_mul) .none kV26 dc26 pm26 an26 cd26 ct26), sl26⟩) (c26 : PySem.W.codeIn K cd26 "_law_mul" = true) (k26 : PySem.W.keepIn K (.ref f26) = true)
    (a27 : PySem.W.nsIn K mainGlobals "_law_sum" = some (some (.ref f27))) (l27 : K.lookup f27 = some ⟨oc27, od27, .func (PySem.W.fnOf "_law_sum" "_law_sum" (defArgs s_law_sum) (defBody s_law_sum) (defScope s_law_sum) .none kV27 dc27 pm27 an27 cd27 ct27), sl27⟩) (c27 : PySem.W.codeIn K cd27 "_law_sum" = true) (k27 : PySem.W.keepIn K (.ref f27) = true)
    (a28 : PySem.W.nsIn K mainGlobals "_law_same" = some (some (.ref f28))) (l28 : K.lookup f28 = some ⟨oc28, od28, .func (PySem.W.fnOf "_law_same" "_law_same" (defArgs s_law_same) (defBody s_law_same) (defScope s_law_same) .none kV28 dc28 pm28 an28 cd28 ct28), sl28⟩) (c28 : PySem.W.codeIn K cd28 "_law_same" = true) (k28 : PySem.W.keepIn K (.ref f28) = true)
    (a29 : PySem.W.nsIn K mainGlobals "_law_walk" = some (some (.ref f29))) (l29 : K.lookup f29 = some ⟨oc29, od29, .func (PySem.W.fnOf "_law_walk" "_law_walk" (defArgs s_law_walk) (defBody s_law_walk) (defScope s_law_walk) .none kV29 dc29 pm29 an29 cd29 ct29), sl29⟩) (c29 : PySem.W.codeIn K cd29 "_law_walk" = true) (k29 : PySem.W.keepIn K (.ref f29) = true)
    (a30 : PySem.W.nsIn K mainGlobals "_law_other" = some (some (.ref f30))) (l30 : K.lookup f30 = some ⟨oc30, od30, .func (PySem.W.fnOf "_law_other" "_law_other" (defArgs s_law_other) (defBody s_law_other) (defScope s_law_other) .none kV30 dc30 pm30 an30 cd30 ct30), sl30⟩) (c30 : PySem.W.codeIn K cd30 "_law_other" = true) (k30 : PySem.W.keepIn K (.ref f30) = true)
    (a31 : PySem.W.nsIn K mainGlobals "_law_top" = some (some (.ref f31))) (l31 : K.lookup f31 = some ⟨oc31, od31, .func (PySem.W.fnOf "_law_top" "_law_top" (defArgs s_law_top) (defBody s_law_top) (defScope s_law_top) .none kV31 dc31 pm31 an31 cd31 ct31), sl31⟩) (c31 : PySem.W.codeIn K cd31 "_law_top" = true) (k31 : PySem.W.keepIn K (.ref f31) = true)
    (a32 : PySem.W.nsIn K mainGlobals "_law_mean" = some (some (.ref f32))) (l32 : K.lookup f32 = some ⟨oc32, od32, .func (PySem.W.fnOf "_law_mean" "_law_mean" (defArgs s_law_mean) (defBody s_law_mean) (defScope s_law_mean) .none kV32 dc32 pm32 an32 cd32 ct32), sl32⟩) (c32 : PySem.W.codeIn K cd32 "_law_mean" = true) (k32 : PySem.W.keepIn K (.ref f32) = true)
    (a33 : PySem.W.nsIn K mainGlobals "_law_halves_hold" = some (some (.ref f33))) (l33 : K.lookup f33 = some ⟨oc33, od33, .func (PySem.W.fnOf "_law_halves_hold" "_law_halves_hold" (defArgs s_law_halves_hold) (defBody s_law_halves_hold) (defScope s_law_halves_hold) .none kV33 dc33 pm33 an33 cd33 ct33), sl33⟩) (c33 : PySem.W.codeIn K cd33 "_law_halves_hold" = true) (k33 : PySem.W.keepIn K (.ref f33) = true)
    (a34 : PySem.W.nsIn K mainGlobals "law" = some (some (.ref f34))) (l34 : K.lookup f34 = some ⟨oc34, od34, .func (PySem.W.fnOf "law" "law" (defArgs s_law) (defBody s_law) (defScope s_law) .none kV34 dc34 pm34 an34 cd34 ct34), sl34⟩) (c34 : PySem.W.codeIn K cd34 "law" = true) (k34 : PySem.W.keepIn K (.ref f34) = true)
    (z_abs : PySem.W.nsIn K mainGlobals "abs" = some none)
    (z_all : PySem.W.nsIn K mainGlobals "all" = some none)
    (z_bool : PySem.W.nsIn K mainGlobals "bool" = some none)
    (z_enumerate : PySem.W.nsIn K mainGlobals "enumerate" = some none)
    (z_int : PySem.W.nsIn K mainGlobals "int" = some none)
    (z_isinstance : PySem.W.nsIn K mainGlobals "isinstance" = some none)
    (z_len : PySem.W.nsIn K mainGlobals "len" = some none)
    (z_list : PySem.W.nsIn K mainGlobals "list" = some none)
    (z_range : PySem.W.nsIn K mainGlobals "range" = some none)
    (z_repr : PySem.W.nsIn K mainGlobals "repr" = some none)
    (z_tuple : PySem.W.nsIn K mainGlobals "tuple" = some none)
    (z_zip : PySem.W.nsIn K mainGlobals "zip" = some none)
    {t_MAX_PART : Tok} (q_MAX_PART : PySem.W.nsIn K mainGlobals "MAX_PART" = some (some (.int 1000 t_MAX_PART)))
    {t_MAX_TIMES : Tok} (q_MAX_TIMES : PySem.W.nsIn K mainGlobals "MAX_TIMES" = some (some (.int 40 t_MAX_TIMES)))
    {t_MAX_WAY : Tok} (q_MAX_WAY : PySem.W.nsIn K mainGlobals "MAX_WAY" = some (some (.int 30 t_MAX_WAY)))
    (pe1 : PySem.W.nsIn K mainGlobals "PaperError" = some (some (.ref C))) (pe2 : PySem.W.nsIn K mainGlobals "OddsError" = some (some (.ref C0))) (pe3 : PySem.W.nsIn K mainGlobals "super" = some none) (pi1 : PySem.W.findIn K (.ref C) "__init__" = some (some (.ref fI))) (pi2 : K.lookup fI = some ⟨oc_, od_, .func (PySem.W.ksFn "__init__" "PaperError.__init__" (defArgs s_PaperInit) (defBody s_PaperInit) (defScope s_PaperInit) .none kV_ dc_ pm_ an_ (.ref cda) ct_ cc), sl_⟩) (pi3 : PySem.W.codeIn K (.ref cda) "PaperError.__init__" = true) (pi4 : K.lookup cda = some ⟨ccl_, cdd_, .fields vs_, ccs_⟩) (pi5 : K.lookup cc = some ⟨cl_, cld_, .cell (some (.ref C)), csl_⟩) (pi6 : PySem.W.typeIn K (.ref fI) = some (.type "function")) (pc1 : PySem.W.clsIn K C = some cd_) (pc2 : PySem.W.mroIn K C (.ref C) = some true) (pc3 : PySem.W.ks_superIn K C C "__init__" = some (some (.builtin "ValueError.__init__"))) (pc4 : PySem.W.subIn K (.ref C) (.type "ValueError") = some true) (pc5 : PySem.W.nsIn K cStatics "thirdparty.any" = some none) (pc6 : PySem.W.findIn K (.ref C) "reason" = some none) (pt1 : K.lookup C = some (excClassObj nm_ q_ C N_ bs_ bm_ true sn_ sub_ ab_ col_ dd_ k0_ k1_ k2_ k3_ k5_ "ValueError.__new__")) (pt2 : PySem.W.findIn K (.ref C) "__setattr__" = some (some (.builtin "object.__setattr__"))) (pt3 : PySem.W.subIn K (.ref C) (.type "BaseException") = some true) (pt4 : PySem.W.typeIn K (.ref C) = some (.type "type")) (pt5 : PySem.W.keepIn K (.ref C) = true) (px1 : PySem.W.findIn K (.ref C) "__getattribute__" = some (some (.builtin "BaseException.__getattribute__"))) (px2 : PySem.W.findIn K (.ref C) "__getattr__" = some none) (px3 : PySem.W.hasDictIn K C = true) (po1 : PySem.W.subIn K (.ref C0) (.type "BaseException") = some true) (po2 : PySem.W.hasDictIn K C0 = true) (po3 : PySem.W.typeIn K (.ref C0) = some (.type "type")) (po4 : PySem.W.subIn K (.ref C) (.ref C0) = some true) (pv1 : vs_[2]? = some (.str file_ tf_)) (pv2 : ((l.prog.main.file : Str) == file_) = true) (pv3 : PySem.HandSPX.refsVE bm_ = true) (pv4 : (l.prog.main.scope.names.lookup ("super" : Str)).isSome = false)
    : ∃ fd : FuncData, (∀ (s : Shared) (v : Value), BindsTo s fd ⟨[v], []⟩ [("script", v)]) ∧ ∀ base : Heap, K.In base → base.Ns mainGlobals mg → FnG l.prog w K mg base 8 fa fd ["script"] (SpP K R_top) := by
  have e := hfa.symm.trans (PySem.W.mg_of X G a34)
  cases e
  have B : Gb K mg := ⟨PySem.W.mg_none_of X G z_abs, PySem.W.mg_none_of X G z_all, PySem.W.mg_none_of X G z_bool, PySem.W.mg_none_of X G z_enumerate, PySem.W.mg_none_of X G z_int, PySem.W.mg_none_of X G z_isinstance, PySem.W.mg_none_of X G z_len, PySem.W.mg_none_of X G z_list, PySem.W.mg_none_of X G z_range, PySem.W.mg_none_of X G z_repr, PySem.W.mg_none_of X G z_tuple, PySem.W.mg_none_of X G z_zip, ⟨t_MAX_PART, PySem.W.mg_of X G q_MAX_PART⟩, ⟨t_MAX_TIMES, PySem.W.mg_of X G q_MAX_TIMES⟩, ⟨t_MAX_WAY, PySem.W.mg_of X G q_MAX_WAY⟩⟩
  refine ⟨PySem.W.fnOf "law" "law" (defArgs s_law) (defBody s_law) (defScope s_law) .none kV34 dc34 pm34 an34 cd34 ct34, fun s v => .of_eq rfl, fun base _ _ => ?_⟩
  have PK : PaperOk l.prog w K mg base "PaperError" "OddsError" C C0 := paper_mk (st := s_PaperInit) (qual := "PaperError.__init__") X G pe1 pe2 pe3 pi1 pi2 pi3 pi4 pi5 pi6 pc1 pc2 pc3 pc4 pc5 pc6 pt1 pt2 pt3 pt4 pt5 px1 px2 px3 po1 po2 po3 po4 pv1 pv2 pv3 pv4 paper_scope paper_par (fun fd IF => paper_init IF) paper_binds
  have D0 : Fd K mg "_law_start" s_law_start := ⟨⟨_, _, fun_mk (st := s_law_start) l0 c0 k0, PySem.W.mg_of X G a0⟩⟩
  have C0 := ok_law_start (P := l.prog) (w := w) (base := base) B D0 
  have D1 : Fd K mg "_law_draw" s_law_draw := ⟨⟨_, _, fun_mk (st := s_law_draw) l1 c1 k1, PySem.W.mg_of X G a1⟩⟩
  have C1 := ok_law_draw (P := l.prog) (w := w) (base := base) B D1 
  have D2 : Fd K mg "_law_pick" s_law_pick := ⟨⟨_, _, fun_mk (st := s_law_pick) l2 c2 k2, PySem.W.mg_of X G a2⟩⟩
  have C2 := ok_law_pick (P := l.prog) (w := w) (base := base) B D2 C1
  have D3 : Fd K mg "is_integer" s_is_integer := ⟨⟨_, _, fun_mk (st := s_is_integer) l3 c3 k3, PySem.W.mg_of X G a3⟩⟩
  have C3 := ok_is_integer (P := l.prog) (w := w) (base := base) B D3 
  have D4 : Fd K mg "greatest_divisor" s_greatest_divisor := ⟨⟨_, _, fun_mk (st := s_greatest_divisor) l4 c4 k4, PySem.W.mg_of X G a4⟩⟩
  have C4 := ok_greatest_divisor (P := l.prog) (w := w) (base := base) B D4 
  have D5 : Fd K mg "quotient" s_quotient := ⟨⟨_, _, fun_mk (st := s_quotient) l5 c5 k5, PySem.W.mg_of X G a5⟩⟩
  have C5 := ok_quotient (P := l.prog) (w := w) (base := base) B D5 C4
  have D6 : Fd K mg "plus" s_plus := ⟨⟨_, _, fun_mk (st := s_plus) l6 c6 k6, PySem.W.mg_of X G a6⟩⟩
  have C6 := ok_plus (P := l.prog) (w := w) (base := base) B D6 C5
  have D7 : Fd K mg "minus" s_minus := ⟨⟨_, _, fun_mk (st := s_minus) l7 c7 k7, PySem.W.mg_of X G a7⟩⟩
  have C7 := ok_minus (P := l.prog) (w := w) (base := base) B D7 C5
  have D8 : Fd K mg "times" s_times := ⟨⟨_, _, fun_mk (st := s_times) l8 c8 k8, PySem.W.mg_of X G a8⟩⟩
  have C8 := ok_times (P := l.prog) (w := w) (base := base) B D8 C5
  have D9 : Fd K mg "over" s_over := ⟨⟨_, _, fun_mk (st := s_over) l9 c9 k9, PySem.W.mg_of X G a9⟩⟩
  have C9 := ok_over (P := l.prog) (w := w) (base := base) B D9 C5
  have D10 : Fd K mg "is_quotient" s_is_quotient := ⟨⟨_, _, fun_mk (st := s_is_quotient) l10 c10 k10, PySem.W.mg_of X G a10⟩⟩
  have C10 := ok_is_quotient (P := l.prog) (w := w) (base := base) B D10 C4 C3
  have D11 : Fd K mg "is_step" s_is_step := ⟨⟨_, _, fun_mk (st := s_is_step) l11 c11 k11, PySem.W.mg_of X G a11⟩⟩
  have C11 := ok_is_step (P := l.prog) (w := w) (base := base) B D11 C10
  have D12 : Fd K mg "check_walk" s_check_walk := ⟨⟨_, _, fun_mk (st := s_check_walk) l12 c12 k12, PySem.W.mg_of X G a12⟩⟩
  have C12 := ok_check_walk (P := l.prog) (w := w) (base := base) B D12 C11
  have D13 : Fd K mg "check_place" s_check_place := ⟨⟨_, _, fun_mk (st := s_check_place) l13 c13 k13, PySem.W.mg_of X G a13⟩⟩
  have C13 := ok_check_place (P := l.prog) (w := w) (base := base) B D13 C3
  have D14 : Fd K mg "down_of" s_down_of := ⟨⟨_, _, fun_mk (st := s_down_of) l14 c14 k14, PySem.W.mg_of X G a14⟩⟩
  have C14 := ok_down_of (P := l.prog) (w := w) (base := base) B D14 C7
  have D15 : Fd K mg "top_chances" s_top_chances := ⟨⟨_, _, fun_mk (st := s_top_chances) l15 c15 k15, PySem.W.mg_of X G a15⟩⟩
  have C15 := ok_top_chances (P := l.prog) (w := w) (base := base) B D15 C12 C14 C9 C6 C8
  have D16 : Fd K mg "mean_of" s_mean_of := ⟨⟨_, _, fun_mk (st := s_mean_of) l16 c16 k16, PySem.W.mg_of X G a16⟩⟩
  have C16 := ok_mean_of (P := l.prog) (w := w) (base := base) B D16 C14 C6 C8
  have D17 : Fd K mg "check_row" s_check_row := ⟨⟨_, _, fun_mk (st := s_check_row) l17 c17 k17, PySem.W.mg_of X G a17⟩⟩
  have C17 := ok_check_row (P := l.prog) (w := w) (base := base) B D17 C10
  have D18 : Fd K mg "mean_steps" s_mean_steps := ⟨⟨_, _, fun_mk (st := s_mean_steps) l18 c18 k18, PySem.W.mg_of X G a18⟩⟩
  have C18 := ok_mean_steps (P := l.prog) (w := w) (base := base) B D18 C12 C14 C7 C9 C6 C8
  have D19 : Fd K mg "accept_top" s_accept_top := ⟨⟨_, _, fun_mk (st := s_accept_top) l19 c19 k19, PySem.W.mg_of X G a19⟩⟩
  have C19 := ok_accept_top (P := l.prog) (w := w) (base := base) B D19 C17 C12 C16 PK
  have D20 : Fd K mg "accept_mean_steps" s_accept_mean_steps := ⟨⟨_, _, fun_mk (st := s_accept_mean_steps) l20 c20 k20, PySem.W.mg_of X G a20⟩⟩
  have C20 := ok_accept_mean_steps (P := l.prog) (w := w) (base := base) B D20 C17 C12 C16 C6 PK
  have D21 : Fd K mg "_law_refused" s_law_refused_accept_top := ⟨⟨_, _, fun_mk (st := s_law_refused_accept_top) l21 c21 k21, PySem.W.mg_of X G a21⟩⟩
  have C21 := ok_law_refused_accept_top (P := l.prog) (w := w) (base := base) B D21 C19 PK
  have D22 : Fd K mg "_law_refused" s_law_refused_accept_mean_steps := ⟨⟨_, _, fun_mk (st := s_law_refused_accept_mean_steps) l22 c22 k22, PySem.W.mg_of X G a22⟩⟩
  have C22 := ok_law_refused_accept_mean_steps (P := l.prog) (w := w) (base := base) B D22 C20 PK
  have D23 : Fd K mg "places_behind" s_places_behind := ⟨⟨_, _, fun_mk (st := s_places_behind) l23 c23 k23, PySem.W.mg_of X G a23⟩⟩
  have C23 := ok_places_behind (P := l.prog) (w := w) (base := base) B D23 C13 C12 C14 C3 C6 C8
  have D24 : Fd K mg "_law_q" s_law_q := ⟨⟨_, _, fun_mk (st := s_law_q) l24 c24 k24, PySem.W.mg_of X G a24⟩⟩
  have C24 := ok_law_q (P := l.prog) (w := w) (base := base) B D24 
  have D25 : Fd K mg "_law_add" s_law_add := ⟨⟨_, _, fun_mk (st := s_law_add) l25 c25 k25, PySem.W.mg_of X G a25⟩⟩
  have C25 := ok_law_add (P := l.prog) (w := w) (base := base) B D25 C24
  have D26 : Fd K mg "_law_mul" s_law_mul := ⟨⟨_, _, fun_mk (st := s_law_mul) l26 c26 k26, PySem.W.mg_of X G a26⟩⟩
  have C26 := ok_law_mul (P := l.prog) (w := w) (base := base) B D26 C24
  have D27 : Fd K mg "_law_sum" s_law_sum := ⟨⟨_, _, fun_mk (st := s_law_sum) l27 c27 k27, PySem.W.mg_of X G a27⟩⟩
  have C27 := ok_law_sum (P := l.prog) (w := w) (base := base) B D27 C25
  have D28 : Fd K mg "_law_same" s_law_same := ⟨⟨_, _, fun_mk (st := s_law_same) l28 c28 k28, PySem.W.mg_of X G a28⟩⟩
  have C28 := ok_law_same (P := l.prog) (w := w) (base := base) B D28 
  have D29 : Fd K mg "_law_walk" s_law_walk := ⟨⟨_, _, fun_mk (st := s_law_walk) l29 c29 k29, PySem.W.mg_of X G a29⟩⟩
  have C29 := ok_law_walk (P := l.prog) (w := w) (base := base) B D29 C1 C2 C24
  have D30 : Fd K mg "_law_other" s_law_other := ⟨⟨_, _, fun_mk (st := s_law_other) l30 c30 k30, PySem.W.mg_of X G a30⟩⟩
  have C30 := ok_law_other (P := l.prog) (w := w) (base := base) B D30 
  have D31 : Fd K mg "_law_top" s_law_top := ⟨⟨_, _, fun_mk (st := s_law_top) l31 c31 k31, PySem.W.mg_of X G a31⟩⟩
  have C31 := ok_law_top (P := l.prog) (w := w) (base := base) B D31 C25 C26
  have D32 : Fd K mg "_law_mean" s_law_mean := ⟨⟨_, _, fun_mk (st := s_law_mean) l32 c32 k32, PySem.W.mg_of X G a32⟩⟩
  have C32 := ok_law_mean (P := l.prog) (w := w) (base := base) B D32 C26 C27
  have D33 : Fd K mg "_law_halves_hold" s_law_halves_hold := ⟨⟨_, _, fun_mk (st := s_law_halves_hold) l33 c33 k33, PySem.W.mg_of X G a33⟩⟩
  have C33 := ok_law_halves_hold (P := l.prog) (w := w) (base := base) B D33 C25 C1 C32 C26 C27 C23
  exact ok_law (P := l.prog) (w := w) (base := base) B (fun_mk (st := s_law) l34 c34 k34) C25 C1 C33 C32 C26 C30 C2 C22 C21 C28 C0 C27 C31 C29 C18 C23 C15 (PySem.W.mg_of X G a20) (PySem.W.mg_of X G a19)
end Nz
open PySem PySem.W PyProof.Rows
set_option maxHeartbeats 0 in
theorem PySem.Challenge.cw_nosurewin_k68_walks_cut_and_put_together_holds : PySem.Challenge.rw_nosurewin_k68_walks_cut_and_put_together.Holds := by
  w_on; o_law; k_head; (case hw => w_witness2)
  k_fill
  refine Nz.walk_ofG (l := PySem.Challenge.rw_nosurewin_k68_walks_cut_and_put_together) (n := 63) (k := 8) (x := "script") rfl (by decide) rfl ⟨rfl, by decide, by decide⟩ (fun w h Y => PySem.W.kIn_of Y) ?F
  case F =>
    intro w mg fa h KX G hmg
    refine' Nz.all_mk KX G hmg ?a0 ?l0 ?c0 ?k0 ?a1 ?l1 ?c1 ?k1 ?a2 ?l2 ?c2 ?k2 ?a3 ?l3 ?c3 ?k3 ?a4 ?l4 ?c4 ?k4 ?a5 ?l5 ?c5 ?k5 ?a6 ?l6 ?c6 ?k6 ?a7 ?l7 ?c7 ?k7 ?a8 ?l8 ?c8 ?k8 ?a9 ?l9 ?c9 ?k9 ?a10 ?l10 ?c10 ?k10 ?a11 ?l11 ?c11 ?k11 ?a12 ?l12 ?c12 ?k12 ?a13 ?l13 ?c13 ?k13 ?a14 ?l14 ?c14 ?k14 ?a15 ?l15 ?c15 ?k15 ?a16 ?l16 ?c16 ?k16 ?a17 ?l17 ?c17 ?k17 ?a18 ?l18 ?c18 ?k18 ?a19 ?l19 ?c19 ?k19 ?a20 ?l20 ?c20 ?k20 ?a21 ?l21 ?c21 ?k21 ?a22 ?l22 ?c22 ?k22 ?a23 ?l23 ?c23 ?k23 ?a24 ?l24 ?c24 ?k24 ?a25 ?l25 ?c25 ?k25 ?a26 ?l26 ?c26 ?k26 ?a27 ?l27 ?c27 ?k27 ?a28 ?l28 ?c28 ?k28 ?a29 ?l29 ?c29 ?k29 ?a30 ?l30 ?c30 ?k30 ?a31 ?l31 ?c31 ?k31 ?a32 ?l32 ?c32 ?k32 ?a33 ?l33 ?c33 ?k33 ?a34 ?l34 ?c34 ?k34 ?z_abs ?z_all ?z_bool ?z_enumerate ?z_int ?z_isinstance ?z_len ?z_list ?z_range ?z_repr ?z_tuple ?z_zip ?q_MAX_PART ?q_MAX_TIMES ?q_MAX_WAY ?pe1 ?pe2 ?pe3 ?pi1 ?pi2 ?pi3 ?pi4 ?pi5 ?pi6 ?pc1 ?pc2 ?pc3 ?pc4 ?pc5 ?pc6 ?pt1 ?pt2 ?pt3 ?pt4 ?pt5 ?px1 ?px2 ?px3 ?po1 ?po2 ?po3 ?po4 ?pv1 ?pv2 ?pv3 ?pv4
    (case a0 => k_is)
    (case l0 => k_is)
    (case c0 => k_is)
    (case k0 => k_is)
    (case a1 => k_is)
    (case l1 => k_is)
    (case c1 => k_is)
    (case k1 => k_is)
    (case a2 => k_is)
    (case l2 => k_is)
    (case c2 => k_is)
    (case k2 => k_is)
    (case a3 => k_is)
    (case l3 => k_is)
    (case c3 => k_is)
    (case k3 => k_is)
    (case a4 => k_is)
    (case l4 => k_is)
    (case c4 => k_is)
    (case k4 => k_is)
    (case a5 => k_is)
    (case l5 => k_is)
    (case c5 => k_is)
    (case k5 => k_is)
    (case a6 => k_is)
    (case l6 => k_is)
    (case c6 => k_is)
    (case k6 => k_is)
    (case a7 => k_is)
    (case l7 => k_is)
    (case c7 => k_is)
    (case k7 => k_is)
    (case a8 => k_is)
    (case l8 => k_is)
    (case c8 => k_is)
    (case k8 => k_is)
    (case a9 => k_is)
    (case l9 => k_is)
    (case c9 => k_is)
    (case k9 => k_is)
    (case a10 => k_is)
    (case l10 => k_is)
    (case c10 => k_is)
    (case k10 => k_is)
    (case a11 => k_is)
    (case l11 => k_is)
    (case c11 => k_is)
    (case k11 => k_is)
    (case a12 => k_is)
    (case l12 => k_is)
    (case c12 => k_is)
    (case k12 => k_is)
    (case a13 => k_is)
    (case l13 => k_is)
    (case c13 => k_is)
    (case k13 => k_is)
    (case a14 => k_is)
    (case l14 => k_is)
    (case c14 => k_is)
    (case k14 => k_is)
    (case a15 => k_is)
    (case l15 => k_is)
    (case c15 => k_is)
    (case k15 => k_is)
    (case a16 => k_is)
    (case l16 => k_is)
    (case c16 => k_is)
    (case k16 => k_is)
    (case a17 => k_is)
    (case l17 => k_is)
    (case c17 => k_is)
    (case k17 => k_is)
    (case a18 => k_is)
    (case l18 => k_is)
    (case c18 => k_is)
    (case k18 => k_is)
    (case a19 => k_is)
    (case l19 => k_is)
    (case c19 => k_is)
    (case k19 => k_is)
    (case a20 => k_is)
    (case l20 => k_is)
    (case c20 => k_is)
    (case k20 => k_is)
    (case a21 => k_is)
    (case l21 => k_is)
    (case c21 => k_is)
    (case k21 => k_is)
    (case a22 => k_is)
    (case l22 => k_is)
    (case c22 => k_is)
    (case k22 => k_is)
    (case a23 => k_is)
    (case l23 => k_is)
    (case c23 => k_is)
    (case k23 => k_is)
    (case a24 => k_is)
    (case l24 => k_is)
    (case c24 => k_is)
    (case k24 => k_is)
    (case a25 => k_is)
    (case l25 => k_is)
    (case c25 => k_is)
    (case k25 => k_is)
    (case a26 => k_is)
    (case l26 => k_is)
    (case c26 => k_is)
    (case k26 => k_is)
    (case a27 => k_is)
    (case l27 => k_is)
    (case c27 => k_is)
    (case k27 => k_is)
    (case a28 => k_is)
    (case l28 => k_is)
    (case c28 => k_is)
    (case k28 => k_is)
    (case a29 => k_is)
    (case l29 => k_is)
    (case c29 => k_is)
    (case k29 => k_is)
    (case a30 => k_is)
    (case l30 => k_is)
    (case c30 => k_is)
    (case k30 => k_is)
    (case a31 => k_is)
    (case l31 => k_is)
    (case c31 => k_is)
    (case k31 => k_is)
    (case a32 => k_is)
    (case l32 => k_is)
    (case c32 => k_is)
    (case k32 => k_is)
    (case a33 => k_is)
    (case l33 => k_is)
    (case c33 => k_is)
    (case k33 => k_is)
    (case a34 => k_is)
    (case l34 => k_is)
    (case c34 => k_is)
    (case k34 => k_is)
    (case z_abs => k_is)
    (case z_all => k_is)
    (case z_bool => k_is)
    (case z_enumerate => k_is)
    (case z_int => k_is)
    (case z_isinstance => k_is)
    (case z_len => k_is)
    (case z_list => k_is)
    (case z_range => k_is)
    (case z_repr => k_is)
    (case z_tuple => k_is)
    (case z_zip => k_is)
    (case q_MAX_PART => k_is)
    (case q_MAX_TIMES => k_is)
    (case q_MAX_WAY => k_is)
    (case pe1 => k_is)
    (case pe2 => k_is)
    (case pe3 => k_is)
    (case pi1 => k_is)
    (case pi2 => k_is)
    (case pi3 => k_is)
    (case pi4 => k_is)
    (case pi5 => k_is)
    (case pi6 => k_is)
    (case pc1 => k_is)
    (case pc2 => k_is)
    (case pc3 => ks_is)
    (case pc4 => k_is)
    (case pc5 => k_is)
    (case pc6 => k_is)
    (case pt1 => k_is)
    (case pt2 => k_is)
    (case pt3 => k_is)
    (case pt4 => k_is)
    (case pt5 => k_is)
    (case px1 => k_is)
    (case px2 => k_is)
    (case px3 => k_is)
    (case po1 => k_is)
    (case po2 => k_is)
    (case po3 => k_is)
    (case po4 => k_is)
    (case pv1 => exact rfl)
    (case pv2 => decide +kernel)
    (case pv3 => decide +kernel)
    (case pv4 => decide +kernel)

