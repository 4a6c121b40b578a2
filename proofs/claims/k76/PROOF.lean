import PyProof.Rows.All
import Wide.All
import OpenK.AllK
import Wide.FinOn
import HandS.ForMost
import HandS.ForExc
import HandS.WideBits
import HandS.Style
import HandS.TupAny
import HandS.Deep
import HandS.WideMore
import HandS.IsInst
import HandS.Wide
import KE.SortData
import KE.DataCmp
import PyProof.ReprLen
import PySem.Challenge.RW_layerask_k76_rows_in_any_order
set_option Elab.async false
set_option linter.all false
set_option maxRecDepth 100000
set_option maxHeartbeats 4000000
/-! Data layer: a def's frame as plain data over the hand layer. -/
namespace DL
open PySem L2

/-- plain data; raw: a bare value (a class, an instance) -/
inductive D where
  | non | bl (b : Bool) | int (i : Int) | str (x : Str) | lst (xs : List D) | tup (xs : List D) | raw (v : V)
  /-- a name's own list, by the name's slot (never within other data) -/
  | slot (i : Nat)

mutual
/-- v is the data d, in the part F of the heap that never changes -/
inductive Dr (K : PySem.W.Frag) (F : Hp) : V → D → Prop
  | non : Dr K F .non .non
  | bl (b : Bool) : Dr K F (.bl b) (.bl b)
  | int (i : Int) : Dr K F (.int i) (.int i)
  | str (x : Str) : Dr K F (.str x) (.str x)
  | lst {a : Addr} {xs : List V} {ds : List D} : SqL K F a xs → DrAll K F xs ds → Dr K F (.ref a) (.lst ds)
  | tup {a : Addr} {xs : List V} {ds : List D} : SqT K F a xs → DrAll K F xs ds → Dr K F (.ref a) (.tup ds)
  | raw (v : V) : Dr K F v (.raw v)
inductive DrAll (K : PySem.W.Frag) (F : Hp) : List V → List D → Prop
  | nil : DrAll K F [] []
  | cons {v : V} {vs : List V} {d : D} {ds : List D} : Dr K F v d → DrAll K F vs ds → DrAll K F (v :: vs) (d :: ds)
end

theorem Same.sqT {K : PySem.W.Frag} {H H' : Hp} {a : Addr} {xs : List V} (e : Same H H') (h : SqT K H a xs) : SqT K H' a xs := by
  rcases h with (h | ⟨o, h⟩) | h
  · exact .inl (.inl (e _ _ h))
  · exact .inl (.inr ⟨o, e _ _ h⟩)
  · exact .inr h

section
variable {K : PySem.W.Frag} {F F' : Hp}
mutual
theorem Dr.mono (s : Same F F') : ∀ (d : D) (v : V), Dr K F v d → Dr K F' v d
  | .non, _, h => by cases h; exact .non
  | .bl b, _, h => by cases h; exact .bl b
  | .int i, _, h => by cases h; exact .int i
  | .str x, _, h => by cases h; exact .str x
  | .lst ds, _, h => by
    cases h with
    | lst q a => exact .lst (s.seq q) (DrAll.mono s ds _ a)
  | .tup ds, _, h => by
    cases h with
    | tup q a => exact .tup (Same.sqT s q) (DrAll.mono s ds _ a)
  | .raw v, _, h => by cases h; exact .raw v
  | .slot _, _, h => by cases h
theorem DrAll.mono (s : Same F F') : ∀ (ds : List D) (vs : List V), DrAll K F vs ds → DrAll K F' vs ds
  | [], _, h => by cases h; exact .nil
  | d :: ds, _, h => by
    cases h with
    | cons h1 h2 => exact .cons (Dr.mono s d _ h1) (DrAll.mono s ds _ h2)
end
theorem Dr.up {v : V} {d : D} (h : Dr K F v d) (s : Same F F') : Dr K F' v d := Dr.mono s d v h
theorem DrAll.up {vs : List V} {ds : List D} (h : DrAll K F vs ds) (s : Same F F') : DrAll K F' vs ds := DrAll.mono s ds vs h
theorem DrAll.length : ∀ {vs : List V} {ds : List D}, DrAll K F vs ds → vs.length = ds.length
  | _, _, .nil => rfl
  | _, _, .cons _ t => by rw [List.length_cons, List.length_cons, DrAll.length t]
theorem DrAll.get : ∀ {vs : List V} {ds : List D} {i : Nat} {d : D}, DrAll K F vs ds → ds[i]? = some d → ∃ v, vs[i]? = some v ∧ Dr K F v d
  | _, _, _, _, .nil, e => by simp at e
  | _, _, 0, _, .cons r _, e => by simp at e; subst e; exact ⟨_, rfl, r⟩
  | _, _, i + 1, d, .cons _ t, e => by
    obtain ⟨u, h1, h2⟩ := DrAll.get (i := i) (d := d) t (by simpa using e)
    exact ⟨u, by simpa using h1, h2⟩
theorem DrAll.getV : ∀ {vs : List V} {ds : List D} {i : Nat} {v : V}, DrAll K F vs ds → vs[i]? = some v → ∃ d, ds[i]? = some d ∧ Dr K F v d
  | _, _, _, _, .nil, e => by simp at e
  | _, _, 0, _, .cons r _, e => by simp at e; subst e; exact ⟨_, rfl, r⟩
  | _, _, i + 1, d, .cons _ t, e => by
    obtain ⟨u, h1, h2⟩ := DrAll.getV (i := i) (v := d) t (by simpa using e)
    exact ⟨u, by simpa using h1, h2⟩
theorem DrAll.append : ∀ {vs us : List V} {ds es : List D}, DrAll K F vs ds → DrAll K F us es → DrAll K F (vs ++ us) (ds ++ es)
  | _, _, _, _, .nil, s => s
  | _, _, _, _, .cons r t, s => .cons r (DrAll.append t s)
theorem DrAll.take : ∀ {vs : List V} {ds : List D} (n : Nat), DrAll K F vs ds → DrAll K F (vs.take n) (ds.take n)
  | _, _, 0, _ => .nil
  | _, _, _ + 1, .nil => .nil
  | _, _, n + 1, .cons r t => .cons r (DrAll.take n t)
theorem DrAll.drop : ∀ {vs : List V} {ds : List D} (n : Nat), DrAll K F vs ds → DrAll K F (vs.drop n) (ds.drop n)
  | _, _, 0, r => r
  | _, _, _ + 1, .nil => .nil
  | _, _, n + 1, .cons _ t => DrAll.drop n t
theorem DrAll.set {v : V} {d : D} (r : Dr K F v d) : ∀ {vs : List V} {ds : List D} (i : Nat), DrAll K F vs ds → DrAll K F (vs.set i v) (ds.set i d)
  | _, _, _, .nil => .nil
  | _, _, 0, .cons _ t => .cons r t
  | _, _, i + 1, .cons q t => .cons q (DrAll.set r i t)
theorem DrAll.reverse : ∀ {vs : List V} {ds : List D}, DrAll K F vs ds → DrAll K F vs.reverse ds.reverse
  | _, _, .nil => .nil
  | _, _, .cons r t => by
    rw [List.reverse_cons, List.reverse_cons]
    exact DrAll.append (DrAll.reverse t) (.cons r .nil)
theorem DrAll.ints : ∀ (ns : List Int), DrAll K F (ns.map V.int) (ns.map D.int)
  | [] => .nil
  | n :: ns => .cons (.int n) (DrAll.ints ns)
theorem DrAll.ints_of : ∀ {vs : List V} {ns : List Int}, DrAll K F vs (ns.map D.int) → vs = ns.map V.int
  | [], [], _ => rfl
  | _ :: _, [], h => by cases h
  | [], _ :: _, h => by cases h
  | _ :: _, n :: ns, h => by
    cases h with
    | cons h1 h2 =>
      cases h1
      rw [DrAll.ints_of h2]
      rfl
end

/-- what a name of a frame holds: nothing known; data; a list that it holds alone -/
inductive En where
  | un
  | dat (d : D)
  | own (xs : List D)

/-- a resource: what may change beside the frame's own lists -/
structure Rs where
  M : Type
  vol : M → Addr → Prop
  ok : PySem.W.Frag → Hp → M → Hp → Prop
  live : ∀ {K F m H a}, ok K F m H → vol m a → ∃ o, H a = some o
  ext : ∀ {K F F' m H H'}, ok K F m H → Same F F' → (∀ a o, vol m a → H a = some o → H' a = some o) → ok K F' m H'
  /-- the lists of the resource -/
  view : M → Addr → Option (List D)
  see : ∀ {K F m H a ds}, ok K F m H → view m a = some ds → ∃ vs, H a = some (.lst vs) ∧ DrAll K F vs ds
/-- none -/
def R0 : Rs := ⟨Unit, fun _ _ => False, fun _ _ _ _ => True, fun _ h => h.elim, fun _ _ _ => trivial, fun _ _ => none, fun _ h => nomatch h⟩

/-- the entry -/
structure Z0 (R : Rs) where
  F : Hp
  H : Hp
  m : R.M

structure Hs (K : PySem.W.Frag) (R : Rs) (z : Z0 R) (m : R.M) (H F : Hp) : Prop where
  sub : Same F H
  res : R.ok K F m H
  vF : ∀ a, R.vol m a → F a = none
  fr : ∀ a o, z.H a = some o → ¬ R.vol z.m a → H a = some o ∧ F a = z.F a
  vz : ∀ a, R.vol m a → R.vol z.m a ∨ z.H a = none
  zH : ∀ a o, z.H a = some o → ∃ o', H a = some o'
  fz : Same z.F F

def EnOk (K : PySem.W.Frag) (z H F : Hp) (v : Option V) : En → Prop
  | .un => True
  | .dat d => ∃ x, v = some x ∧ Dr K F x d
  | .own ds => ∃ a xs, v = some (.ref a) ∧ H a = some (.lst xs) ∧ F a = none ∧ z a = none ∧ DrAll K F xs ds

structure Rel (K : PySem.W.Frag) (R : Rs) (z : Z0 R) (ρ : List En) (m : R.M) (σ : St) (H F : Hp) : Prop extends Hs K R z m H F where
  len : σ.length = ρ.length
  var : ∀ (i : Nat) (e : En), ρ[i]? = some e → ∃ v, σ[i]? = some v ∧ EnOk K z.H H F v e
  apart : ∀ (i j : Nat) (a : Addr) (xs ys : List D), ρ[i]? = some (.own xs) → ρ[j]? = some (.own ys) → σ[i]? = some (some (.ref a)) → σ[j]? = some (some (.ref a)) → i = j
  vO : ∀ (a : Addr) (i : Nat) (xs : List D), R.vol m a → ρ[i]? = some (.own xs) → σ[i]? ≠ some (some (.ref a))

theorem EnOk.up {K : PySem.W.Frag} {z H H' F F' : Hp} {v : Option V} {e : En} (h : EnOk K z H F v e) (s : Same F F')
    (k : ∀ a xs, v = some (.ref a) → (∃ ys, e = .own ys) → H a = some (.lst xs) → F a = none → z a = none → H' a = some (.lst xs) ∧ F' a = none) : EnOk K z H' F' v e := by
  cases e with
  | un => trivial
  | dat d => obtain ⟨x, h1, h2⟩ := h; exact ⟨x, h1, h2.up s⟩
  | own ds =>
    obtain ⟨a, xs, h1, h2, h3, h4, h5⟩ := h
    obtain ⟨q1, q2⟩ := k a xs h1 ⟨_, rfl⟩ h2 h3 h4
    exact ⟨a, xs, h1, q1, q2, h4, h5.up s⟩

/-- a list that no name, no frozen data holds -/
structure Loose (K : PySem.W.Frag) (R : Rs) (z : Z0 R) (ρ : List En) (m : R.M) (σ : St) (H F : Hp) (a : Addr) : Prop where
  fF : F a = none
  zH : z.H a = none
  vol : ¬ R.vol m a
  own : ∀ (i : Nat) (xs : List D), ρ[i]? = some (.own xs) → σ[i]? ≠ some (some (.ref a))

section
variable {K : PySem.W.Frag} {R : Rs} {z : Z0 R} {ρ : List En} {m : R.M} {σ : St} {H F : Hp}
theorem Hs.newH (I : Hs K R z m H F) {p : Addr} (hp : H p = none) : F p = none ∧ z.H p = none ∧ ¬ R.vol m p := by
  refine ⟨I.sub.free hp, ?_, fun q => ?_⟩
  · cases q : z.H p with
    | none => rfl
    | some o =>
      obtain ⟨o', e⟩ := I.zH p o q
      rw [hp] at e
      cases e
  · obtain ⟨o, e⟩ := R.live I.res q
    rw [hp] at e
    cases e
theorem Rel.own_at (I : Rel K R z ρ m σ H F) {i : Nat} {ds : List D} (e : ρ[i]? = some (.own ds)) : ∃ a xs, σ[i]? = some (some (.ref a)) ∧ H a = some (.lst xs) ∧ F a = none ∧ z.H a = none ∧ DrAll K F xs ds := by
  obtain ⟨v, h1, a, xs, h2, h3⟩ := I.var i _ e
  subst h2
  exact ⟨a, xs, h1, h3⟩
theorem Rel.dat_at (I : Rel K R z ρ m σ H F) {i : Nat} {d : D} (e : ρ[i]? = some (.dat d)) : ∃ v, σ[i]? = some (some v) ∧ Dr K F v d := by
  obtain ⟨v, h1, x, h2, h3⟩ := I.var i _ e
  subst h2
  exact ⟨x, h1, h3⟩
/-- a new object beside all -/
theorem Rel.alloc (I : Rel K R z ρ m σ H F) {p : Addr} {o : HO} (hp : H p = none) : Rel K R z ρ m σ (upd H p o) F := by
  obtain ⟨pF, pz, pv⟩ := I.newH hp
  have k : ∀ a u, H a = some u → upd H p o a = some u := fun a u e => by rw [upd_ne (ne_of_none e hp)]; exact e
  refine ⟨⟨fun a u e => k a u (I.sub a u e), R.ext I.res (Same.refl F) fun a u _ e => k a u e, I.vF, fun a u e nv => ⟨k a u (I.fr a u e nv).1, (I.fr a u e nv).2⟩, I.vz, fun a u e => ?_, I.fz⟩, I.len, fun i e he => ?_, I.apart, I.vO⟩
  · obtain ⟨o', q⟩ := I.zH a u e
    exact ⟨o', k a o' q⟩
  · obtain ⟨v, h1, h2⟩ := I.var i e he
    exact ⟨v, h1, h2.up (Same.refl F) fun a xs _ _ e1 e2 _ => ⟨k a _ e1, e2⟩⟩
theorem Rel.loose_new (I : Rel K R z ρ m σ H F) {p : Addr} {o : HO} (hp : H p = none) : Loose K R z ρ m σ (upd H p o) F p := by
  obtain ⟨pF, pz, pv⟩ := I.newH hp
  refine ⟨pF, pz, pv, fun i xs e q => ?_⟩
  obtain ⟨a, ys, h1, h2, _⟩ := I.own_at e
  rw [q] at h1
  cases h1
  rw [hp] at h2
  cases h2
/-- what is loose is frozen -/
theorem Rel.freeze (I : Rel K R z ρ m σ H F) {a : Addr} {o : HO} (L : Loose K R z ρ m σ H F a) (hH : H a = some o) : Rel K R z ρ m σ H (upd F a o) ∧ Same F (upd F a o) := by
  have s : Same F (upd F a o) := fun b u e => by rw [upd_ne (ne_of_none e L.fF)]; exact e
  refine ⟨⟨⟨fun b u e => ?_, R.ext I.res s fun _ _ _ e => e, fun b hb => ?_, fun b u e nv => ?_, I.vz, I.zH, fun b u e => s b u (I.fz b u e)⟩, I.len, fun i e he => ?_, I.apart, I.vO⟩, s⟩
  · by_cases hb : b = a
    · subst hb; rw [upd_same] at e; cases e; exact hH
    · rw [upd_ne hb] at e; exact I.sub b u e
  · have ne : b ≠ a := fun q => L.vol (q ▸ hb)
    rw [upd_ne ne]; exact I.vF b hb
  · have ne : b ≠ a := ne_of_none e L.zH
    rw [upd_ne ne]; exact I.fr b u e nv
  · obtain ⟨v, h1, h2⟩ := I.var i e he
    refine ⟨v, h1, h2.up s fun b xs e0 ho e1 e2 _ => ⟨e1, ?_⟩⟩
    obtain ⟨ys, rfl⟩ := ho
    have ne : b ≠ a := fun q => L.own i ys he (by rw [h1, e0, q])
    rw [upd_ne ne]; exact e2
theorem Loose.mono {ρ' : List En} {m' : R.M} {σ' : St} {H' F' : Hp} {a : Addr} (L : Loose K R z ρ m σ H F a) (h1 : F' a = none) (h2 : ¬ R.vol m' a) (h3 : ∀ (i : Nat) (xs : List D), ρ'[i]? = some (.own xs) → σ'[i]? ≠ some (some (.ref a))) : Loose K R z ρ' m' σ' H' F' a :=
  ⟨h1, L.zH, h2, h3⟩
theorem lt_of_get {α : Type} {l : List α} {i : Nat} {x : α} (h : l[i]? = some x) : i < l.length := (List.getElem?_eq_some_iff.mp h).1
/-- a name is set to data -/
theorem Rel.setDat (I : Rel K R z ρ m σ H F) (i : Nat) {v : V} {d : D} (r : Dr K F v d) : Rel K R z (ρ.set i (.dat d)) m (σ.set i (some v)) H F := by
  have old : ∀ (j : Nat) (xs : List D), (ρ.set i (.dat d))[j]? = some (.own xs) → j ≠ i ∧ ρ[j]? = some (.own xs) := fun j xs e => by
    by_cases hj : j = i
    · subst hj
      by_cases hl : j < ρ.length
      · rw [List.getElem?_set_self hl] at e; cases e
      · rw [List.getElem?_eq_none (by simpa using hl)] at e; cases e
    · rw [List.getElem?_set_ne (Ne.symm hj)] at e
      exact ⟨hj, e⟩
  refine ⟨I.toHs, by simpa using I.len, fun j e he => ?_, fun j k a xs ys e1 e2 e3 e4 => ?_, fun a j xs hv e q => ?_⟩
  · by_cases hj : j = i
    · subst hj
      have hl : j < ρ.length := by simpa using lt_of_get he
      rw [List.getElem?_set_self hl] at he
      cases he
      exact ⟨_, List.getElem?_set_self (by rw [I.len]; exact hl), v, rfl, r⟩
    · rw [List.getElem?_set_ne (Ne.symm hj)] at he
      rw [List.getElem?_set_ne (Ne.symm hj)]
      exact I.var j e he
  · obtain ⟨n1, e1⟩ := old j xs e1
    obtain ⟨n2, e2⟩ := old k ys e2
    rw [List.getElem?_set_ne (Ne.symm n1)] at e3
    rw [List.getElem?_set_ne (Ne.symm n2)] at e4
    exact I.apart j k a xs ys e1 e2 e3 e4
  · obtain ⟨n1, e1⟩ := old j xs e
    rw [List.getElem?_set_ne (Ne.symm n1)] at q
    exact I.vO a j xs hv e1 q
/-- a name is set to a loose list -/
theorem Rel.setOwn (I : Rel K R z ρ m σ H F) (i : Nat) {a : Addr} {xs : List V} {ds : List D} (L : Loose K R z ρ m σ H F a) (hH : H a = some (.lst xs)) (r : DrAll K F xs ds) : Rel K R z (ρ.set i (.own ds)) m (σ.set i (some (.ref a))) H F := by
  have old : ∀ (j : Nat) (xs : List D), j ≠ i → (ρ.set i (.own ds))[j]? = some (.own xs) → ρ[j]? = some (.own xs) := fun j xs hj e => by
    rw [List.getElem?_set_ne (Ne.symm hj)] at e; exact e
  refine ⟨I.toHs, by simpa using I.len, fun j e he => ?_, fun j k b xs ys e1 e2 e3 e4 => ?_, fun b j xs hv e q => ?_⟩
  · by_cases hj : j = i
    · subst hj
      have hl : j < ρ.length := by simpa using lt_of_get he
      rw [List.getElem?_set_self hl] at he
      cases he
      exact ⟨_, List.getElem?_set_self (by rw [I.len]; exact hl), a, _, rfl, hH, L.fF, L.zH, r⟩
    · rw [List.getElem?_set_ne (Ne.symm hj)] at he
      rw [List.getElem?_set_ne (Ne.symm hj)]
      exact I.var j e he
  · have in_i : ∀ {j : Nat} {b : Addr}, j = i → (σ.set i (some (.ref a)))[j]? = some (some (.ref b)) → b = a := fun {j b} hj e => by
      subst hj
      have hl : j < σ.length := by simpa using lt_of_get e
      rw [List.getElem?_set_self hl] at e
      cases e; rfl
    by_cases hj : j = i
    · by_cases hk : k = i
      · rw [hj, hk]
      · have z1 := in_i hj e3
        subst z1
        rw [List.getElem?_set_ne (Ne.symm hk)] at e4
        exact absurd e4 (L.own k ys (old k ys hk e2))
    · by_cases hk : k = i
      · have z1 := in_i hk e4
        subst z1
        rw [List.getElem?_set_ne (Ne.symm hj)] at e3
        exact absurd e3 (L.own j xs (old j xs hj e1))
      · rw [List.getElem?_set_ne (Ne.symm hj)] at e3
        rw [List.getElem?_set_ne (Ne.symm hk)] at e4
        exact I.apart j k b xs ys (old j xs hj e1) (old k ys hk e2) e3 e4
  · by_cases hj : j = i
    · subst hj
      have hl : j < σ.length := by simpa using lt_of_get q
      rw [List.getElem?_set_self hl] at q
      cases q
      exact L.vol hv
    · rw [List.getElem?_set_ne (Ne.symm hj)] at q
      exact I.vO b j xs hv (old j xs hj e) q
/-- a name's entry is told anew over the same value -/
theorem Rel.retell (I : Rel K R z ρ m σ H F) (i : Nat) {e : En} (ne : ∀ xs, e ≠ .own xs) (h : ∀ v, σ[i]? = some v → EnOk K z.H H F v e) : Rel K R z (ρ.set i e) m σ H F := by
  have old : ∀ (j : Nat) (xs : List D), (ρ.set i e)[j]? = some (.own xs) → j ≠ i ∧ ρ[j]? = some (.own xs) := fun j xs q => by
    by_cases hj : j = i
    · subst hj
      by_cases hl : j < ρ.length
      · rw [List.getElem?_set_self hl] at q; cases q; exact absurd rfl (ne xs)
      · rw [List.getElem?_eq_none (by simpa using hl)] at q; cases q
    · rw [List.getElem?_set_ne (Ne.symm hj)] at q
      exact ⟨hj, q⟩
  refine ⟨I.toHs, by simpa using I.len, fun j u he => ?_, fun j k a xs ys e1 e2 e3 e4 => ?_, fun a j xs hv q1 q => ?_⟩
  · by_cases hj : j = i
    · subst hj
      have hl : j < ρ.length := by simpa using lt_of_get he
      rw [List.getElem?_set_self hl] at he
      cases he
      obtain ⟨v, hv⟩ : ∃ v, σ[j]? = some v := ⟨σ[j]'(by rw [I.len]; exact hl), List.getElem?_eq_getElem (by rw [I.len]; exact hl)⟩
      exact ⟨v, hv, h v hv⟩
    · rw [List.getElem?_set_ne (Ne.symm hj)] at he
      exact I.var j u he
  · exact I.apart j k a xs ys (old j xs e1).2 (old k ys e2).2 e3 e4
  · exact I.vO a j xs hv (old j xs q1).2 q
/-- a slot's value is lost -/
theorem Rel.drop (I : Rel K R z ρ m σ H F) (i : Nat) (v : Option V) : Rel K R z (ρ.set i .un) m (σ.set i v) H F := by
  have old : ∀ (j : Nat) (xs : List D), (ρ.set i En.un)[j]? = some (.own xs) → j ≠ i ∧ ρ[j]? = some (.own xs) := fun j xs q => by
    by_cases hj : j = i
    · subst hj
      by_cases hl : j < ρ.length
      · rw [List.getElem?_set_self hl] at q; cases q
      · rw [List.getElem?_eq_none (by simpa using hl)] at q; cases q
    · rw [List.getElem?_set_ne (Ne.symm hj)] at q
      exact ⟨hj, q⟩
  refine ⟨I.toHs, by simpa using I.len, fun j u he => ?_, fun j k a xs ys e1 e2 e3 e4 => ?_, fun a j xs hv q1 q => ?_⟩
  · by_cases hj : j = i
    · subst hj
      have hl : j < ρ.length := by simpa using lt_of_get he
      rw [List.getElem?_set_self hl] at he
      cases he
      exact ⟨_, List.getElem?_set_self (by rw [I.len]; exact hl), trivial⟩
    · rw [List.getElem?_set_ne (Ne.symm hj)] at he
      rw [List.getElem?_set_ne (Ne.symm hj)]
      exact I.var j u he
  · obtain ⟨n1, q1⟩ := old j xs e1
    obtain ⟨n2, q2⟩ := old k ys e2
    rw [List.getElem?_set_ne (Ne.symm n1)] at e3
    rw [List.getElem?_set_ne (Ne.symm n2)] at e4
    exact I.apart j k a xs ys q1 q2 e3 e4
  · obtain ⟨n1, q2⟩ := old j xs q1
    rw [List.getElem?_set_ne (Ne.symm n1)] at q
    exact I.vO a j xs hv q2 q
/-- the list of a name is changed -/
theorem Rel.change (I : Rel K R z ρ m σ H F) {i : Nat} {a : Addr} {ys : List V} {ds es : List D} (e : ρ[i]? = some (.own ds)) (hσ : σ[i]? = some (some (.ref a))) (r : DrAll K F ys es) : Rel K R z (ρ.set i (.own es)) m σ (upd H a (.lst ys)) F := by
  obtain ⟨a', xs, h1, h2, h3, h4, h5⟩ := I.own_at e
  rw [hσ] at h1
  cases h1
  have k : ∀ b u, b ≠ a → H b = some u → upd H a (.lst ys) b = some u := fun b u ne q => by rw [upd_ne ne]; exact q
  have nF : ∀ b u, F b = some u → b ≠ a := fun b u q => ne_of_none q h3
  have nz : ∀ b u, z.H b = some u → b ≠ a := fun b u q => ne_of_none q h4
  have old : ∀ (j : Nat) (xs : List D), j ≠ i → (ρ.set i (.own es))[j]? = some (.own xs) → ρ[j]? = some (.own xs) := fun j xs hj q => by
    rw [List.getElem?_set_ne (Ne.symm hj)] at q; exact q
  have any : ∀ (j : Nat) (xs : List D), (ρ.set i (.own es))[j]? = some (.own xs) → ∃ zs, ρ[j]? = some (.own zs) := fun j xs q => by
    by_cases hj : j = i
    · exact ⟨ds, hj ▸ e⟩
    · exact ⟨xs, old j xs hj q⟩
  refine ⟨⟨fun b u q => k b u (nF b u q) (I.sub b u q), R.ext I.res (Same.refl F) fun b u hv q => k b u (fun q2 => I.vO b i ds hv e (by rw [hσ, q2])) q, I.vF, fun b u q nv => ⟨k b u (nz b u q) (I.fr b u q nv).1, (I.fr b u q nv).2⟩, I.vz, fun b u q => ?_, I.fz⟩, by simpa using I.len, fun j u he => ?_, fun j k b xs ys e1 e2 e3 e4 => ?_, fun b j xs hv q1 q => ?_⟩
  · obtain ⟨o', q'⟩ := I.zH b u q
    exact ⟨o', k b o' (nz b u q) q'⟩
  · by_cases hj : j = i
    · subst hj
      have hl : j < ρ.length := by simpa using lt_of_get he
      rw [List.getElem?_set_self hl] at he
      cases he
      exact ⟨_, hσ, a, ys, rfl, upd_same, h3, h4, r⟩
    · rw [List.getElem?_set_ne (Ne.symm hj)] at he
      obtain ⟨v, q1, q2⟩ := I.var j u he
      refine ⟨v, q1, q2.up (Same.refl F) fun b xs' e0 ho e1 e2 _ => ⟨k b _ (fun q => ?_) e1, e2⟩⟩
      obtain ⟨zs, rfl⟩ := ho
      exact hj (I.apart j i a zs ds he e (by rw [q1, e0, q]) hσ)
  · obtain ⟨_, q1⟩ := any j xs e1
    obtain ⟨_, q2⟩ := any k ys e2
    exact I.apart j k b _ _ q1 q2 e3 e4
  · obtain ⟨_, q2⟩ := any j xs q1
    exact I.vO b j _ hv q2 q
/-- a name's own list becomes data -/
theorem Rel.ice (I : Rel K R z ρ m σ H F) {i : Nat} {ds : List D} (e : ρ[i]? = some (.own ds)) : ∃ a xs, σ[i]? = some (some (.ref a)) ∧ F a = none ∧ Rel K R z (ρ.set i (.dat (.lst ds))) m σ H (upd F a (.lst xs)) ∧ Dr K (upd F a (.lst xs)) (.ref a) (.lst ds) := by
  obtain ⟨a, xs, h1, h2, h3, h4, h5⟩ := I.own_at e
  have hl := lt_of_get e
  have J : Rel K R z (ρ.set i .un) m σ H F := I.retell i (fun _ q => nomatch q) fun _ _ => trivial
  have L : Loose K R z (ρ.set i .un) m σ H F a := by
    refine ⟨h3, h4, fun hv => I.vO a i ds hv e h1, fun j ys q q2 => ?_⟩
    by_cases hj : j = i
    · subst hj
      rw [List.getElem?_set_self hl] at q; cases q
    · rw [List.getElem?_set_ne (Ne.symm hj)] at q
      exact hj (I.apart j i a ys ds q e q2 h1)
  obtain ⟨J2, s⟩ := J.freeze L h2
  have r : Dr K (upd F a (.lst xs)) (.ref a) (.lst ds) := .lst (SqL.of upd_same) (h5.up s)
  have J3 := J2.retell i (e := .dat (.lst ds)) (fun _ q => nomatch q) fun v hv => by
    rw [h1] at hv
    cases hv
    exact ⟨_, rfl, r⟩
  rw [List.set_set] at J3
  exact ⟨a, xs, h1, h3, J3, r⟩
end
/-- a is held by no name, is no part of the resource -/
def Aside (R : Rs) (ρ : List En) (m : R.M) (σ : L2.St) (a : Addr) : Prop := ¬ R.vol m a ∧ ∀ (i : Nat) (xs : List D), ρ[i]? = some (.own xs) → σ[i]? ≠ some (some (.ref a))
/-- from one state to a later one: frozen data stays, what is aside stays -/
structure Mv (R : Rs) (ρ : List En) (m : R.M) (σ : L2.St) (H F : Hp) (ρ' : List En) (m' : R.M) (σ' : L2.St) (H' F' : Hp) : Prop where
  same : Same F F'
  live : ∀ a o, H a = some o → ∃ o', H' a = some o'
  kp : ∀ a o, H a = some o → Aside R ρ m σ a → H' a = some o ∧ F' a = F a ∧ Aside R ρ' m' σ' a
section
variable {K : PySem.W.Frag} {R : Rs} {z : Z0 R} {ρ ρ1 ρ2 : List En} {m m1 m2 : R.M} {σ σ1 σ2 : L2.St} {H F H1 F1 H2 F2 : Hp}
theorem Mv.refl : Mv R ρ m σ H F ρ m σ H F := ⟨Same.refl F, fun _ o e => ⟨o, e⟩, fun _ _ e n => ⟨e, rfl, n⟩⟩
theorem Mv.trans (a : Mv R ρ m σ H F ρ1 m1 σ1 H1 F1) (b : Mv R ρ1 m1 σ1 H1 F1 ρ2 m2 σ2 H2 F2) : Mv R ρ m σ H F ρ2 m2 σ2 H2 F2 :=
  ⟨a.same.trans b.same, fun c o e => by obtain ⟨o', e'⟩ := a.live c o e; exact b.live c o' e', fun c o e n => by
    obtain ⟨e1, f1, n1⟩ := a.kp c o e n
    obtain ⟨e2, f2, n2⟩ := b.kp c o e1 n1
    exact ⟨e2, f2.trans f1, n2⟩⟩
theorem Mv.free (a : Mv R ρ m σ H F ρ1 m1 σ1 H1 F1) {p : Addr} (h : H1 p = none) : H p = none := by
  cases e : H p with
  | none => rfl
  | some o =>
    obtain ⟨o', e'⟩ := a.live p o e
    rw [h] at e'
    cases e'
theorem Mv.alloc {p : Addr} {o : HO} (hp : H p = none) : Mv R ρ m σ H F ρ m σ (upd H p o) F :=
  ⟨Same.refl F, fun a u e => ⟨u, by rw [upd_ne (ne_of_none e hp)]; exact e⟩, fun a u e n => ⟨by rw [upd_ne (ne_of_none e hp)]; exact e, rfl, n⟩⟩
/-- what was made since H is frozen -/
theorem Mv.freeze (a : Mv R ρ m σ H F ρ1 m1 σ1 H1 F1) {p : Addr} {o : HO} (hp : H p = none) (hf : F1 p = none) : Mv R ρ m σ H F ρ1 m1 σ1 H1 (upd F1 p o) :=
  ⟨a.same.trans fun b u e => by rw [upd_ne (ne_of_none e hf)]; exact e, a.live, fun b u e n => by
    obtain ⟨e1, f1, n1⟩ := a.kp b u e n
    exact ⟨e1, by rw [upd_ne (ne_of_none e hp)]; exact f1, n1⟩⟩
theorem Aside.sub {ρ' : List En} {σ' : L2.St} {a : Addr} (n : Aside R ρ m σ a) (h : ∀ (i : Nat) (xs : List D), ρ'[i]? = some (.own xs) → σ'[i]? = some (some (.ref a)) → ∃ ys, ρ[i]? = some (.own ys) ∧ σ[i]? = some (some (.ref a))) : Aside R ρ' m σ' a :=
  ⟨n.1, fun i xs e q => by
    obtain ⟨ys, e', q'⟩ := h i xs e q
    exact n.2 i ys e' q'⟩
theorem set_own_old {i : Nat} {e : En} (ne : ∀ xs, e ≠ .own xs) {j : Nat} {xs : List D} (h : (ρ.set i e)[j]? = some (.own xs)) : j ≠ i ∧ ρ[j]? = some (.own xs) := by
  by_cases hj : j = i
  · subst hj
    by_cases hl : j < ρ.length
    · rw [List.getElem?_set_self hl] at h; cases h; exact absurd rfl (ne xs)
    · rw [List.getElem?_eq_none (by simpa using hl)] at h; cases h
  · rw [List.getElem?_set_ne (Ne.symm hj)] at h
    exact ⟨hj, h⟩
theorem Mv.setDat (i : Nat) (v : V) (d : D) : Mv R ρ m σ H F (ρ.set i (.dat d)) m (σ.set i (some v)) H F :=
  ⟨Same.refl F, fun _ o e => ⟨o, e⟩, fun a o e n => ⟨e, rfl, n.sub fun j xs e1 q1 => by
    obtain ⟨nj, e2⟩ := set_own_old (e := .dat d) (fun _ q => nomatch q) e1
    rw [List.getElem?_set_ne (Ne.symm nj)] at q1
    exact ⟨xs, e2, q1⟩⟩⟩
theorem Mv.change {i : Nat} {a : Addr} {ys : List V} {ds es : List D} (e : ρ[i]? = some (.own ds)) (hσ : σ[i]? = some (some (.ref a))) : Mv R ρ m σ H F (ρ.set i (.own es)) m σ (upd H a (.lst ys)) F :=
  ⟨Same.refl F, fun b o q => by
    by_cases hb : b = a
    · exact ⟨_, by rw [hb]; exact upd_same⟩
    · exact ⟨o, by rw [upd_ne hb]; exact q⟩, fun b o q n => ⟨by rw [upd_ne (fun hb => n.2 i ds e (by rw [hσ, hb]))]; exact q, rfl, n.sub fun j xs e1 q1 => by
    by_cases hj : j = i
    · exact ⟨ds, hj ▸ e, q1⟩
    · rw [List.getElem?_set_ne (Ne.symm hj)] at e1
      exact ⟨xs, e1, q1⟩⟩⟩
end
end DL

/-! Data layer: judgements, control flow. -/
namespace DL
open PySem L2

/-- an exception: its class, its fields -/
structure Xd where
  cls : Value
  fs : List (Str × D)
def XdOk (K : PySem.W.Frag) (F H : Hp) (x : Xd) (cls : Value) (d : Option Addr) : Prop :=
  cls = x.cls ∧ ∀ f v, (f, v) ∈ x.fs → ∃ a fvs u, d = some a ∧ H a = some (.xd fvs) ∧ fvs.lookup f = some u ∧ Dr K F u v

abbrev ZC (R : Rs) := Xd → List En → R.M → Prop
/-- what is wanted of an expression's data, names and resource -/
abbrev KD (R : Rs) := D → List En → R.M → Prop
abbrev KL (R : Rs) := List D → List En → R.M → Prop
abbrev KB (R : Rs) := Bool → List En → R.M → Prop
abbrev TD (R : Rs) := ZC R → List En → R.M → KD R → Prop
abbrev TL (R : Rs) := ZC R → List En → R.M → KL R → Prop
abbrev TB (R : Rs) := ZC R → List En → R.M → KB R → Prop
structure DEnds (R : Rs) where
  nx : List En → R.M → Prop
  rt : D → R.M → Prop
  bk : List En → R.M → Prop := fun _ _ => False
  ct : List En → R.M → Prop := fun _ _ => False
  rz : ZC R
abbrev TSd (R : Rs) := DEnds R → List En → R.M → Prop

def nth : List En → Nat → En
  | [], _ => .un
  | e :: _, 0 => e
  | _ :: r, n + 1 => nth r n
theorem nth_get : ∀ {ρ : List En} {i : Nat} {e : En}, nth ρ i = e → e ≠ .un → ρ[i]? = some e
  | [], i, e, h, n => absurd h.symm n
  | a :: r, 0, e, h, n => by simpa [nth] using h
  | a :: r, i + 1, e, h, n => by
    have := nth_get (ρ := r) (i := i) h n
    simpa using this

/-- a value is data, or the own list of a slot -/
def Dv (K : PySem.W.Frag) (σ : L2.St) (F : Hp) (v : V) : D → Prop
  | .slot i => σ[i]? = some (some v)
  | d => Dr K F v d
theorem Dr.dv {K : PySem.W.Frag} {σ : L2.St} {F : Hp} {v : V} {d : D} (h : Dr K F v d) : Dv K σ F v d := by
  cases d <;> first | exact h | (cases h)
/-- data that stands by itself -/
def D.firm : D → Prop
  | .slot _ => False
  | _ => True
theorem Dv.dr {K : PySem.W.Frag} {σ : L2.St} {F : Hp} {v : V} {d : D} (h : Dv K σ F v d) (f : d.firm) : Dr K F v d := by
  cases d <;> first | exact h | exact f.elim
theorem Dv.up {K : PySem.W.Frag} {σ : L2.St} {F F' : Hp} {v : V} {d : D} (h : Dv K σ F v d) (s : Same F F') : Dv K σ F' v d := by
  cases d <;> first | exact Dr.up h s | exact h
inductive DvAll (K : PySem.W.Frag) (σ : L2.St) (F : Hp) : List V → List D → Prop
  | nil : DvAll K σ F [] []
  | cons {v : V} {vs : List V} {d : D} {ds : List D} : Dv K σ F v d → DvAll K σ F vs ds → DvAll K σ F (v :: vs) (d :: ds)
def Firms : List D → Prop
  | [] => True
  | d :: ds => d.firm ∧ Firms ds
theorem DvAll.dr {K : PySem.W.Frag} {σ : L2.St} {F : Hp} : ∀ {vs : List V} {ds : List D}, DvAll K σ F vs ds → Firms ds → DrAll K F vs ds
  | _, _, .nil, _ => .nil
  | _, _, .cons r t, f => .cons (r.dr f.1) (DvAll.dr t f.2)
theorem DvAll.up {K : PySem.W.Frag} {σ : L2.St} {F F' : Hp} (s : Same F F') : ∀ {vs : List V} {ds : List D}, DvAll K σ F vs ds → DvAll K σ F' vs ds
  | _, _, .nil => .nil
  | _, _, .cons r t => .cons (r.up s) (DvAll.up s t)
/-- the items of a list, of a tuple -/
abbrev Vw := Addr → Option (List D)
def itemsL (w : Vw) (ρ : List En) : D → Option (List D)
  | .lst xs => some xs
  | .slot i => match nth ρ i with
    | .own xs => some xs
    | _ => none
  | .raw (.ref a) => w a
  | _ => none

def Zok (K : PySem.W.Frag) (R : Rs) (z : Z0 R) (W : WX) (Z : ZC R) : Prop :=
  ∀ x ρ m σ H F cls d, Rel K R z ρ m σ H F → XdOk K F H x cls d → Z x ρ m → W cls d σ H

section
variable (K : PySem.W.Frag) (W : WX) (R : Rs)
/-- the reading te is served by the data reading t -/
def SE (te : TE) (t : TD R) : Prop := ∀ (z : Z0 R) (Z : ZC R) (ρ : List En) (m : R.M) (σ : L2.St) (H F : Hp) (Q : KD R) (Qh : VK), Zok K R z W Z → Rel K R z ρ m σ H F → t Z ρ m Q →
  (∀ v H' F' ρ' m' d, Rel K R z ρ' m' σ H' F' → Mv R ρ m σ H F ρ' m' σ H' F' → Dv K σ F' v d → Q d ρ' m' → Qh v H') → te σ H Qh
def SA (ta : TA) (t : TL R) (n : Nat) : Prop := ∀ (z : Z0 R) (Z : ZC R) (ρ : List En) (m : R.M) (σ : L2.St) (H F : Hp) (Q : KL R) (Qh : List V → Hp → Prop), Zok K R z W Z → Rel K R z ρ m σ H F → t Z ρ m Q →
  (∀ vs H' F' ρ' m' ds, Rel K R z ρ' m' σ H' F' → Mv R ρ m σ H F ρ' m' σ H' F' → DvAll K σ F' vs ds → vs.length = n → Q ds ρ' m' → Qh vs H') → ta σ H Qh
def ST (tt : TT) (t : TB R) : Prop := ∀ (z : Z0 R) (Z : ZC R) (ρ : List En) (m : R.M) (σ : L2.St) (H F : Hp) (Q : KB R) (Qh : Bool → Hp → Prop), Zok K R z W Z → Rel K R z ρ m σ H F → t Z ρ m Q →
  (∀ b H' F' ρ' m', Rel K R z ρ' m' σ H' F' → Mv R ρ m σ H F ρ' m' σ H' F' → Q b ρ' m' → Qh b H') → tt σ H Qh
/-- a new list that is held by nobody -/
def SO (te : TE) (t : TL R) : Prop := ∀ (z : Z0 R) (Z : ZC R) (ρ : List En) (m : R.M) (σ : L2.St) (H F : Hp) (Q : KL R) (Qh : VK), Zok K R z W Z → Rel K R z ρ m σ H F → t Z ρ m Q →
  (∀ a xs ds H' F' ρ' m', Rel K R z ρ' m' σ H' F' → Mv R ρ m σ H F ρ' m' σ H' F' → H a = none → Loose K R z ρ' m' σ H' F' a → H' a = some (.lst xs) → DrAll K F' xs ds → Q ds ρ' m' → Qh (.ref a) H') → te σ H Qh
structure Mt (z : Z0 R) (G : Hp) (D : DEnds R) (Dh : Ends) : Prop where
  nx : ∀ ρ m σ H F, Rel K R z ρ m σ H F → Same G F → D.nx ρ m → Dh.nx σ H
  rt : ∀ d ρ m v σ H F, Rel K R z ρ m σ H F → Same G F → Dr K F v d → D.rt d m → Dh.rt v H
  bk : ∀ ρ m σ H F, Rel K R z ρ m σ H F → Same G F → D.bk ρ m → Dh.bk σ H
  ct : ∀ ρ m σ H F, Rel K R z ρ m σ H F → Same G F → D.ct ρ m → Dh.ct σ H
  rz : Zok K R z W D.rz
def SS (ts : TS) (t : TSd R) : Prop := ∀ (z : Z0 R) (ρ : List En) (m : R.M) (σ : L2.St) (H F : Hp) (D : DEnds R) (Dh : Ends), Mt K W R z F D Dh → Rel K R z ρ m σ H F → t D ρ m → ts Dh σ H
end
theorem Mt.up {K : PySem.W.Frag} {W : WX} {R : Rs} {z : Z0 R} {G G' : Hp} {D : DEnds R} {Dh : Ends} (M : Mt K W R z G D Dh) (s : Same G G') : Mt K W R z G' D Dh :=
  ⟨fun ρ m σ H F I e => M.nx ρ m σ H F I (s.trans e), fun d ρ m v σ H F I e => M.rt d ρ m v σ H F I (s.trans e), fun ρ m σ H F I e => M.bk ρ m σ H F I (s.trans e), fun ρ m σ H F I e => M.ct ρ m σ H F I (s.trans e), M.rz⟩
section
variable (X : Cx) (W : WX) (R : Rs)
structure DE (e : Expr) (t : TD R) : Prop where
  ex : ∃ te, PE X e te ∧ SE X.K W R te t
structure DO (e : Expr) (t : TL R) : Prop where
  ex : ∃ te, PE X e te ∧ SO X.K W R te t
structure DA (es : List Expr) (t : TL R) : Prop where
  ex : ∃ ta, PA X es ta ∧ SA X.K W R ta t es.length
structure DT (e : Expr) (t : TB R) : Prop where
  ex : ∃ tt, PT X e tt ∧ ST X.K W R tt t
structure DW (e : Expr) (t : TB R) : Prop where
  ex : ∃ tt, PW X e tt ∧ ST X.K W R tt t
structure DS (st : Stmt) (t : TSd R) : Prop where
  ex : ∃ ts, PS X st ts ∧ SS X.K W R ts t
structure DSs (sts : List Stmt) (t : TSd R) : Prop where
  ex : ∃ ts, PSs X sts ts ∧ SS X.K W R ts t
end

section
variable {X : Cx} {W : WX} {R : Rs} {e a b c : Expr} {es : List Expr} {st : Stmt} {sts : List Stmt} {pos : Pos} {te ta tb : TD R} {tl : TL R} {tc : TB R} {ts us : TSd R}
/-! ### names, constants, lists of arguments -/
def eVar (i : Nat) : TD R := fun _ ρ m Q => match nth ρ i with
  | .dat d => Q d ρ m
  | .own _ => Q (.slot i) ρ m
  | .un => False
/-- a name whose own list becomes data -/
def eIce (i : Nat) : TD R := fun _ ρ m Q => match nth ρ i with
  | .dat d => Q d ρ m
  | .own xs => Q (.lst xs) (ρ.set i (.dat (.lst xs))) m
  | .un => False
def eC (d : D) : TD R := fun _ ρ m Q => Q d ρ m
theorem de_var {i : Nat} (h : PE X e (tVar i)) : DE X W R e (eVar i) := by
  refine ⟨_, h, fun z Z ρ m σ H F Q Qh hz I h q => ?_⟩
  unfold eVar at h
  split at h
  · rename_i d e
    obtain ⟨v, h1, h2⟩ := I.dat_at (nth_get e (fun q => nomatch q))
    exact ⟨v, h1, q v H F ρ m d I Mv.refl h2.dv h⟩
  · rename_i xs e
    obtain ⟨a, ys, h1, _⟩ := I.own_at (nth_get e (fun q => nomatch q))
    exact ⟨.ref a, h1, q (.ref a) H F ρ m (.slot i) I Mv.refl h1 h⟩
  · exact h.elim
theorem de_ice {i : Nat} (h : PE X e (tVar i)) : DE X W R e (eIce i) := by
  refine ⟨_, h, fun z Z ρ m σ H F Q Qh hz I h q => ?_⟩
  unfold eIce at h
  split at h
  · rename_i d e
    obtain ⟨v, h1, h2⟩ := I.dat_at (nth_get e (fun q => nomatch q))
    exact ⟨v, h1, q v H F ρ m d I Mv.refl h2.dv h⟩
  · rename_i xs e
    have e' := nth_get e (fun q => nomatch q)
    obtain ⟨a, us, h1, h3, I', h2⟩ := I.ice e'
    refine ⟨.ref a, h1, q (.ref a) H _ _ m _ I' ⟨fun b u q => by rw [upd_ne (ne_of_none q h3)]; exact q, fun b o q => ⟨o, q⟩, fun b o q n => ⟨q, ?_, n.sub fun j ys e1 q1 => ?_⟩⟩ h2.dv h⟩
    · rw [upd_ne (fun hb => n.2 i xs e' (by rw [h1, hb]))]
    · obtain ⟨_, e2⟩ := set_own_old (e := .dat (.lst xs)) (fun _ q => nomatch q) e1
      exact ⟨ys, e2, q1⟩
  · exact h.elim
theorem se_c {v : V} {d : D} (r : ∀ F, Dr X.K F v d) : SE X.K W R (tC v) (eC d) := fun z Z ρ m σ H F Q Qh hz I h q => q v H F ρ m d I Mv.refl (r F).dv h
theorem de_int {i : Int} {j pos} : DE X W R (.Constant (.int i) j pos) (eC (.int i)) := ⟨_, pe_int, se_c fun _ => .int i⟩
theorem de_bl {i : Bool} {j pos} : DE X W R (.Constant (.bool i) j pos) (eC (.bl i)) := ⟨_, pe_bl, se_c fun _ => .bl i⟩
theorem de_non {j pos} : DE X W R (.Constant .none j pos) (eC .non) := ⟨_, pe_non, se_c fun _ => .non⟩
theorem de_str {x : Str} {j pos} : DE X W R (.Constant (.str x) j pos) (eC (.str x)) := ⟨_, pe_str, se_c fun _ => .str x⟩
/-- a class, a def, a built-in as a value -/
theorem de_raw {v : V} (h : PE X e (tC v)) : DE X W R e (eC (.raw v)) := ⟨_, h, se_c fun _ => .raw v⟩

def aNil : TL R := fun _ ρ m Q => Q [] ρ m
def aCons (t : TD R) (r : TL R) : TL R := fun Z ρ m Q => t Z ρ m fun x ρ1 m1 => r Z ρ1 m1 fun xs ρ2 m2 => Q (x :: xs) ρ2 m2
theorem da_nil : DA X W R [] aNil := ⟨_, pa_nil, fun z Z ρ m σ H F Q Qh hz I h q => q [] H F ρ m [] I Mv.refl .nil rfl h⟩
theorem da_cons (ha : DE X W R e te) (hr : DA X W R es tl) (hs : starEach (e :: es) X.env = (false, eval e X.env) :: starEach es X.env := by rfl) : DA X W R (e :: es) (aCons te tl) := by
  obtain ⟨t1, p1, s1⟩ := ha
  obtain ⟨t2, p2, s2⟩ := hr
  refine ⟨_, pa_cons p1 p2 hs, fun z Z ρ m σ H F Q Qh hz I h q => ?_⟩
  exact s1 z Z ρ m σ H F _ _ hz I h fun v H1 F1 ρ1 m1 d I1 f1 r1 h1 => s2 z Z ρ1 m1 σ H1 F1 _ _ hz I1 h1 fun vs H2 F2 ρ2 m2 ds I2 f2 r2 n2 h2 =>
    q (v :: vs) H2 F2 ρ2 m2 (d :: ds) I2 (f1.trans f2) (.cons (r1.up f2.same) r2) (by rw [List.length_cons, n2]; rfl) h2

/-! ### a new list that becomes data -/
def eFz (t : TL R) : TD R := fun Z ρ m Q => t Z ρ m fun xs ρ1 m1 => Q (.lst xs) ρ1 m1
theorem DO.fz (h : DO X W R e tl) : DE X W R e (eFz tl) := by
  obtain ⟨t1, p1, s1⟩ := h
  refine ⟨_, p1, fun z Z ρ m σ H F Q Qh hz I h q => ?_⟩
  refine s1 z Z ρ m σ H F _ _ hz I h fun a xs ds H' F' ρ' m' I' s hN L hH r hq => ?_
  obtain ⟨J, s2⟩ := I'.freeze L hH
  exact q (.ref a) H' _ ρ' m' (.lst ds) J (s.freeze hN L.fF) (Dr.dv (.lst (SqL.of upd_same) (r.up s2))) hq

/-! ### a test's answer as a value; and, or, not; if -/
def bOf (t : TD R) : TB R := fun Z ρ m Q => t Z ρ m fun x ρ1 m1 => match x with
  | .bl k => Q k ρ1 m1
  | _ => False
theorem dt_val (h : DE X W R e te) (he : ∀ whole, isTrue e X.env whole = (do let v ← whole; standAt e.pos; holding [v] (truthy v)) := by intro _; rfl) : DT X W R e (bOf te) := by
  obtain ⟨t1, p1, s1⟩ := h
  refine ⟨_, pt_val p1 he, fun z Z ρ m σ H F Q Qh hz I h q => ?_⟩
  refine s1 z Z ρ m σ H F _ _ hz I h fun v H' F' ρ' m' d I' s r hq => ?_
  cases d <;> first | exact hq.elim | skip
  rename_i k
  have r' := Dv.dr r trivial
  cases r'
  exact ⟨k, rfl, q k H' F' ρ' m' I' s hq⟩
def bAnd (t u : TB R) : TB R := fun Z ρ m Q => t Z ρ m fun c ρ1 m1 => (c = true → u Z ρ1 m1 Q) ∧ (c = false → Q false ρ1 m1)
def bOr (t u : TB R) : TB R := fun Z ρ m Q => t Z ρ m fun c ρ1 m1 => (c = true → Q true ρ1 m1) ∧ (c = false → u Z ρ1 m1 Q)
def bNot (t : TB R) : TB R := fun Z ρ m Q => t Z ρ m fun c ρ1 m1 => Q (!c) ρ1 m1
variable {t1 t2 : TB R} {rest : List Expr}
theorem DW.pt (h : DW X W R e tc) : DT X W R e tc := by
  obtain ⟨t1, p1, s1⟩ := h
  exact ⟨_, p1.pt, s1⟩
theorem dw_and1 (h : DT X W R a t1) : DW X W R (.BoolOp .And [a] pos) t1 := by
  obtain ⟨_, p1, s1⟩ := h
  exact ⟨_, pw_and1 p1, s1⟩
theorem dw_or1 (h : DT X W R a t1) : DW X W R (.BoolOp .Or [a] pos) t1 := by
  obtain ⟨_, p1, s1⟩ := h
  exact ⟨_, pw_or1 p1, s1⟩
theorem dw_and (ha : DT X W R a t1) (hb : DW X W R (.BoolOp .And (b :: rest) pos) t2) : DW X W R (.BoolOp .And (a :: b :: rest) pos) (bAnd t1 t2) := by
  obtain ⟨_, p1, s1⟩ := ha
  obtain ⟨_, p2, s2⟩ := hb
  refine ⟨_, pw_and p1 p2, fun z Z ρ m σ H F Q Qh hz I h q => ?_⟩
  refine s1 z Z ρ m σ H F _ _ hz I h fun c H1 F1 ρ1 m1 I1 f1 h1 => ?_
  cases c with
  | true => exact iteT (s2 z Z ρ1 m1 σ H1 F1 _ _ hz I1 (h1.1 rfl) fun c H2 F2 ρ2 m2 I2 f2 h2 => q c H2 F2 ρ2 m2 I2 (f1.trans f2) h2)
  | false => exact iteF (q false H1 F1 ρ1 m1 I1 f1 (h1.2 rfl))
theorem dw_or (ha : DT X W R a t1) (hb : DW X W R (.BoolOp .Or (b :: rest) pos) t2) : DW X W R (.BoolOp .Or (a :: b :: rest) pos) (bOr t1 t2) := by
  obtain ⟨_, p1, s1⟩ := ha
  obtain ⟨_, p2, s2⟩ := hb
  refine ⟨_, pw_or p1 p2, fun z Z ρ m σ H F Q Qh hz I h q => ?_⟩
  refine s1 z Z ρ m σ H F _ _ hz I h fun c H1 F1 ρ1 m1 I1 f1 h1 => ?_
  cases c with
  | true => exact iteT (q true H1 F1 ρ1 m1 I1 f1 (h1.1 rfl))
  | false => exact iteF (s2 z Z ρ1 m1 σ H1 F1 _ _ hz I1 (h1.2 rfl) fun c H2 F2 ρ2 m2 I2 f2 h2 => q c H2 F2 ρ2 m2 I2 (f1.trans f2) h2)
theorem dt_not (ha : DT X W R a t1) : DT X W R (.UnaryOp .Not a pos) (bNot t1) := by
  obtain ⟨_, p1, s1⟩ := ha
  refine ⟨_, pt_not p1, fun z Z ρ m σ H F Q Qh hz I h q => ?_⟩
  exact s1 z Z ρ m σ H F _ _ hz I h fun c H1 F1 ρ1 m1 I1 f1 h1 => q (!c) H1 F1 ρ1 m1 I1 f1 h1
/-- as values -/
def eAnd (t u : TD R) : TD R := fun Z ρ m Q => t Z ρ m fun x ρ1 m1 => match x with
  | .bl c => (c = true → u Z ρ1 m1 Q) ∧ (c = false → Q (.bl false) ρ1 m1)
  | _ => False
def eOr (t u : TD R) : TD R := fun Z ρ m Q => t Z ρ m fun x ρ1 m1 => match x with
  | .bl c => (c = true → Q (.bl true) ρ1 m1) ∧ (c = false → u Z ρ1 m1 Q)
  | _ => False
def eNot (t : TD R) : TD R := fun Z ρ m Q => t Z ρ m fun x ρ1 m1 => match x with
  | .bl c => Q (.bl (!c)) ρ1 m1
  | _ => False
theorem de_one {op} (h : DE X W R a te) : DE X W R (.BoolOp op [a] pos) te := by
  obtain ⟨_, p1, s1⟩ := h
  exact ⟨_, pe_one p1, s1⟩
theorem Dv.bl {K : PySem.W.Frag} {σ : L2.St} {F : Hp} {v : V} {k : Bool} (h : Dv K σ F v (.bl k)) : v = .bl k := by
  have h' : Dr K F v (.bl k) := h
  cases h'; rfl
theorem Dv.int {K : PySem.W.Frag} {σ : L2.St} {F : Hp} {v : V} {k : Int} (h : Dv K σ F v (.int k)) : v = .int k := by
  have h' : Dr K F v (.int k) := h
  cases h'; rfl
theorem Dv.str {K : PySem.W.Frag} {σ : L2.St} {F : Hp} {v : V} {k : Str} (h : Dv K σ F v (.str k)) : v = .str k := by
  have h' : Dr K F v (.str k) := h
  cases h'; rfl
theorem Dv.raw {K : PySem.W.Frag} {σ : L2.St} {F : Hp} {v k : V} (h : Dv K σ F v (.raw k)) : v = k := by
  have h' : Dr K F v (.raw k) := h
  cases h'; rfl
theorem Dv.non {K : PySem.W.Frag} {σ : L2.St} {F : Hp} {v : V} (h : Dv K σ F v .non) : v = .non := by
  have h' : Dr K F v .non := h
  cases h'; rfl
theorem Dv.tup {K : PySem.W.Frag} {σ : L2.St} {F : Hp} {v : V} {ds : List D} (h : Dv K σ F v (.tup ds)) : ∃ a xs, v = .ref a ∧ SqT K F a xs ∧ DrAll K F xs ds := by
  have h' : Dr K F v (.tup ds) := h
  cases h' with
  | tup a b => exact ⟨_, _, rfl, a, b⟩
theorem Dv.lst {K : PySem.W.Frag} {σ : L2.St} {F : Hp} {v : V} {ds : List D} (h : Dv K σ F v (.lst ds)) : ∃ a xs, v = .ref a ∧ SqL K F a xs ∧ DrAll K F xs ds := by
  have h' : Dr K F v (.lst ds) := h
  cases h' with
  | lst a b => exact ⟨_, _, rfl, a, b⟩
/-- a list, data or a name's own, is to be read -/
theorem Rel.listV {K : PySem.W.Frag} {z : Z0 R} {ρ : List En} {m : R.M} {σ : L2.St} {H F : Hp} (I : Rel K R z ρ m σ H F) {v : V} {d : D} {ds : List D} (r : Dv K σ F v d) (e : itemsL (R.view m) ρ d = some ds) : ∃ a xs, v = .ref a ∧ SqL K H a xs ∧ DrAll K F xs ds := by
  cases d <;> first | (cases e; done) | skip
  · cases e
    obtain ⟨a, xs, h1, h2, h3⟩ := r.lst
    exact ⟨a, xs, h1, I.sub.seq h2, h3⟩
  · rename_i w
    obtain rfl := r.raw
    cases v <;> first | (cases e; done) | skip
    rename_i a
    obtain ⟨vs, h1, h2⟩ := R.see I.res (show R.view m a = some ds from e)
    exact ⟨a, vs, rfl, SqL.of h1, h2⟩
  · rename_i i
    cases q : nth ρ i with
    | un => simp [itemsL, q] at e
    | dat d => simp [itemsL, q] at e
    | own xs =>
      have e' : xs = ds := by simpa [itemsL, q] using e
      subst e'
      obtain ⟨a, ys, h1, h2, _, _, h5⟩ := I.own_at (nth_get q (fun q => nomatch q))
      have h1' : σ[i]? = some (some v) := r
      rw [h1] at h1'
      cases h1'
      exact ⟨a, ys, rfl, SqL.of h2, h5⟩
theorem de_and (ha : DE X W R a ta) (hb : DE X W R (.BoolOp .And (b :: rest) pos) tb) : DE X W R (.BoolOp .And (a :: b :: rest) pos) (eAnd ta tb) := by
  obtain ⟨_, p1, s1⟩ := ha
  obtain ⟨_, p2, s2⟩ := hb
  refine ⟨_, pe_and p1 p2, fun z Z ρ m σ H F Q Qh hz I h q => ?_⟩
  refine s1 z Z ρ m σ H F _ _ hz I h fun v H1 F1 ρ1 m1 d I1 f1 r1 h1 => ?_
  cases d <;> first | exact h1.elim | skip
  rename_i c
  refine ⟨c, r1.bl, ?_⟩
  cases c with
  | true => exact iteT (s2 z Z ρ1 m1 σ H1 F1 _ _ hz I1 (h1.1 rfl) fun v H2 F2 ρ2 m2 d I2 f2 r2 h2 => q v H2 F2 ρ2 m2 d I2 (f1.trans f2) r2 h2)
  | false => exact iteF (q (.bl false) H1 F1 ρ1 m1 (.bl false) I1 f1 (Dr.bl false) (h1.2 rfl))
theorem de_or (ha : DE X W R a ta) (hb : DE X W R (.BoolOp .Or (b :: rest) pos) tb) : DE X W R (.BoolOp .Or (a :: b :: rest) pos) (eOr ta tb) := by
  obtain ⟨_, p1, s1⟩ := ha
  obtain ⟨_, p2, s2⟩ := hb
  refine ⟨_, pe_or p1 p2, fun z Z ρ m σ H F Q Qh hz I h q => ?_⟩
  refine s1 z Z ρ m σ H F _ _ hz I h fun v H1 F1 ρ1 m1 d I1 f1 r1 h1 => ?_
  cases d <;> first | exact h1.elim | skip
  rename_i c
  refine ⟨c, r1.bl, ?_⟩
  cases c with
  | true => exact iteT (q (.bl true) H1 F1 ρ1 m1 (.bl true) I1 f1 (Dr.bl true) (h1.1 rfl))
  | false => exact iteF (s2 z Z ρ1 m1 σ H1 F1 _ _ hz I1 (h1.2 rfl) fun v H2 F2 ρ2 m2 d I2 f2 r2 h2 => q v H2 F2 ρ2 m2 d I2 (f1.trans f2) r2 h2)
theorem de_not (ha : DE X W R a ta) : DE X W R (.UnaryOp .Not a pos) (eNot ta) := by
  obtain ⟨_, p1, s1⟩ := ha
  refine ⟨_, pe_not p1, fun z Z ρ m σ H F Q Qh hz I h q => ?_⟩
  refine s1 z Z ρ m σ H F _ _ hz I h fun v H1 F1 ρ1 m1 d I1 f1 r1 h1 => ?_
  cases d <;> first | exact h1.elim | skip
  rename_i c
  exact ⟨c, r1.bl, q _ H1 F1 ρ1 m1 (.bl (!c)) I1 f1 (Dr.bl (!c)) h1⟩
def eIf (t : TB R) (u w : TD R) : TD R := fun Z ρ m Q => t Z ρ m fun c ρ1 m1 => (c = true → u Z ρ1 m1 Q) ∧ (c = false → w Z ρ1 m1 Q)
theorem de_if (hc : DT X W R c t1) (ha : DE X W R a ta) (hb : DE X W R b tb) : DE X W R (.IfExp c a b pos) (eIf t1 ta tb) := by
  obtain ⟨_, p0, s0⟩ := hc
  obtain ⟨_, p1, s1⟩ := ha
  obtain ⟨_, p2, s2⟩ := hb
  refine ⟨_, pe_ifExp p0 p1 p2, fun z Z ρ m σ H F Q Qh hz I h q => ?_⟩
  refine s0 z Z ρ m σ H F _ _ hz I h fun c H1 F1 ρ1 m1 I1 f1 h1 => ?_
  cases c with
  | true => exact iteT (s1 z Z ρ1 m1 σ H1 F1 _ _ hz I1 (h1.1 rfl) fun v H2 F2 ρ2 m2 d I2 f2 r2 h2 => q v H2 F2 ρ2 m2 d I2 (f1.trans f2) r2 h2)
  | false => exact iteF (s2 z Z ρ1 m1 σ H1 F1 _ _ hz I1 (h1.2 rfl) fun v H2 F2 ρ2 m2 d I2 f2 r2 h2 => q v H2 F2 ρ2 m2 d I2 (f1.trans f2) r2 h2)

/-! ### statements -/
def sNext : TSd R := fun D ρ m => D.nx ρ m
def sBreak : TSd R := fun D ρ m => D.bk ρ m
def sCont : TSd R := fun D ρ m => D.ct ρ m
def sSeq (t u : TSd R) : TSd R := fun D ρ m => t { D with nx := fun ρ1 m1 => u D ρ1 m1 } ρ m
def sIf (c : TB R) (t u : TSd R) : TSd R := fun D ρ m => c D.rz ρ m fun k ρ1 m1 => (k = true → t D ρ1 m1) ∧ (k = false → u D ρ1 m1)
def sRet (t : TD R) : TSd R := fun D ρ m => t D.rz ρ m fun d _ m1 => d.firm ∧ D.rt d m1
def sRetN : TSd R := fun D _ m => D.rt .non m
def sSet (i : Nat) (t : TD R) : TSd R := fun D ρ m => t D.rz ρ m fun d ρ1 m1 => d.firm ∧ D.nx (ρ1.set i (.dat d)) m1
def sOwn (i : Nat) (t : TL R) : TSd R := fun D ρ m => t D.rz ρ m fun xs ρ1 m1 => D.nx (ρ1.set i (.own xs)) m1
def sDrop (t : TD R) : TSd R := fun D ρ m => t D.rz ρ m fun _ ρ1 m1 => D.nx ρ1 m1
theorem dss_nil : DSs X W R [] sNext := ⟨_, pss_nil, fun z ρ m σ H F D Dh M I h => M.nx ρ m σ H F I (Same.refl F) h⟩
theorem dss_one (h : DS X W R st ts) : DSs X W R [st] ts := by
  obtain ⟨_, p, s⟩ := h
  exact ⟨_, pss_one p, s⟩
theorem dss_cons (h1 : DS X W R st ts) (h2 : DSs X W R sts us) : DSs X W R (st :: sts) (sSeq ts us) := by
  obtain ⟨_, p1, s1⟩ := h1
  obtain ⟨_, p2, s2⟩ := h2
  refine ⟨_, pss_cons p1 p2, fun z ρ m σ H F D Dh M I h => ?_⟩
  have h' : ts { D with nx := fun ρ1 m1 => us D ρ1 m1 } ρ m := h
  exact s1 z ρ m σ H F { D with nx := fun ρ1 m1 => us D ρ1 m1 } _ ⟨fun ρ1 m1 σ1 H1 F1 I1 f1 h1 => s2 z ρ1 m1 σ1 H1 F1 D Dh (M.up f1) I1 h1, M.rt, M.bk, M.ct, M.rz⟩ I h'
theorem ds_pass : DS X W R (.Pass pos) sNext := ⟨_, ps_pass, fun z ρ m σ H F D Dh M I h => M.nx ρ m σ H F I (Same.refl F) h⟩
theorem ds_break : DS X W R (.Break pos) sBreak := ⟨_, ps_break, fun z ρ m σ H F D Dh M I h => M.bk ρ m σ H F I (Same.refl F) h⟩
theorem ds_cont : DS X W R (.Continue pos) sCont := ⟨_, ps_continue, fun z ρ m σ H F D Dh M I h => M.ct ρ m σ H F I (Same.refl F) h⟩
theorem ds_doc {x j pos'} : DS X W R (.Expr (.Constant (.str x) j pos) pos') sNext := ⟨_, ps_doc, fun z ρ m σ H F D Dh M I h => M.nx ρ m σ H F I (Same.refl F) h⟩
theorem ds_if {l r : List Stmt} (hc : DT X W R c t1) (ha : DSs X W R l ts) (hb : DSs X W R r us) : DS X W R (.If c l r pos) (sIf t1 ts us) := by
  obtain ⟨_, p0, s0⟩ := hc
  obtain ⟨_, p1, s1⟩ := ha
  obtain ⟨_, p2, s2⟩ := hb
  refine ⟨_, ps_if p0 p1 p2, fun z ρ m σ H F D Dh M I h => ?_⟩
  refine s0 z D.rz ρ m σ H F _ _ M.rz I h fun c H1 F1 ρ1 m1 I1 f1 h1 => ?_
  cases c with
  | true => exact iteT (s1 z ρ1 m1 σ H1 F1 D Dh (M.up f1.same) I1 (h1.1 rfl))
  | false => exact iteF (s2 z ρ1 m1 σ H1 F1 D Dh (M.up f1.same) I1 (h1.2 rfl))
theorem ds_ret (h : DE X W R e te) : DS X W R (.Return (some e) pos) (sRet te) := by
  obtain ⟨_, p, s⟩ := h
  refine ⟨_, ps_ret p, fun z ρ m σ H F D Dh M I h => ?_⟩
  exact s z D.rz ρ m σ H F _ _ M.rz I h fun v H1 F1 ρ1 m1 d I1 f1 r1 h1 => M.rt d ρ1 m1 v σ H1 F1 I1 f1.same (r1.dr h1.1) h1.2
theorem ds_retN : DS X W R (.Return none pos) sRetN := ⟨_, ps_retN, fun z ρ m σ H F D Dh M I h => M.rt .non ρ m .non σ H F I (Same.refl F) .non h⟩
theorem ds_set {i : Nat} {x : Str} {pos' : Pos} (hN : X.N.Nodup) (hi : X.N[i]? = some x) (hx : Loc X.env.scope x) (he : DE X W R e te) (hs : swapsWith e (some (.Name x pos')) pos.line X.env = pure false := by rfl)
    (hf : X.fn x = true ∨ X.env.scope.names.lookup x = some .local := by first | exact .inl rfl | exact .inr rfl | assumption) : DS X W R (.Assign [.Name x pos'] e pos) (sSet i te) := by
  obtain ⟨_, p, s⟩ := he
  refine ⟨_, ps_set hN hi hx p hs hf, fun z ρ m σ H F D Dh M I h => ?_⟩
  exact s z D.rz ρ m σ H F _ _ M.rz I h fun v H1 F1 ρ1 m1 d I1 f1 r1 h1 => M.nx _ m1 _ H1 F1 (I1.setDat i (r1.dr h1.1)) f1.same h1.2
theorem ds_own {i : Nat} {x : Str} {pos' : Pos} (hN : X.N.Nodup) (hi : X.N[i]? = some x) (hx : Loc X.env.scope x) (he : DO X W R e tl) (hs : swapsWith e (some (.Name x pos')) pos.line X.env = pure false := by rfl)
    (hf : X.fn x = true ∨ X.env.scope.names.lookup x = some .local := by first | exact .inl rfl | exact .inr rfl | assumption) : DS X W R (.Assign [.Name x pos'] e pos) (sOwn i tl) := by
  obtain ⟨_, p, s⟩ := he
  refine ⟨_, ps_set hN hi hx p hs hf, fun z ρ m σ H F D Dh M I h => ?_⟩
  exact s z D.rz ρ m σ H F _ _ M.rz I h fun a xs ds H1 F1 ρ1 m1 I1 f1 _ L hH r1 h1 => M.nx _ m1 _ H1 F1 (I1.setOwn i L hH r1) f1.same h1
theorem ds_expr (h : DE X W R e te) (hs : swapsWith e none pos.line X.env = pure false := by rfl) : DS X W R (.Expr e pos) (sDrop te) := by
  obtain ⟨_, p, s⟩ := h
  refine ⟨_, ps_expr p hs, fun z ρ m σ H F D Dh M I h => ?_⟩
  exact s z D.rz ρ m σ H F _ _ M.rz I h fun v H1 F1 ρ1 m1 d I1 f1 r1 h1 => M.nx ρ1 m1 σ H1 F1 I1 f1.same h1
/-- code that is never come to -/
def sNever : TSd R := fun _ _ _ => False
theorem ds_never : DS X W R st sNever := ⟨_, ps_never, fun _ _ _ _ _ _ _ _ _ _ h => h⟩
theorem dss_never : DSs X W R sts sNever := ⟨_, pss_never, fun _ _ _ _ _ _ _ _ _ _ h => h⟩

/-! ### while -/
/-- at most n turns -/
def whileN (c : TB R) (b : TSd R) (D : DEnds R) : Nat → List En → R.M → Prop
  | 0 => fun _ _ => False
  | n + 1 => fun ρ m => c D.rz ρ m fun k ρ1 m1 => (k = true → b { D with nx := whileN c b D n, ct := whileN c b D n, bk := D.nx } ρ1 m1) ∧ (k = false → D.nx ρ1 m1)
def sWhile (c : TB R) (b : TSd R) : TSd R := fun D ρ m => ∃ n, whileN c b D n ρ m
theorem ds_while {body : List Stmt} (hp : PassesOwn (model X.prog X.w) X.A X.env X.xe) (hc : DT X W R c t1) (hb : DSs X W R body ts) : DS X W R (.While c body [] pos) (sWhile t1 ts) := by
  obtain ⟨_, p0, s0⟩ := hc
  obtain ⟨_, p1, s1⟩ := hb
  refine ⟨_, ps_while hp p0 p1, fun z ρ m σ H F D Dh M I h => ?_⟩
  obtain ⟨n, hn⟩ := h
  refine ⟨fun k σ H => ∃ ρ m F', Rel X.K R z ρ m σ H F' ∧ Same F F' ∧ whileN t1 ts D k ρ m, ⟨n, ρ, m, F, I, Same.refl F, hn⟩, ?_⟩
  rintro k σ H ⟨ρ, m, F', I, s, hk⟩
  cases k with
  | zero => exact hk.elim
  | succ k =>
    refine s0 z D.rz ρ m σ H F' _ _ M.rz I hk fun c H1 F1 ρ1 m1 I1 f1 h1 => ?_
    have s1' := s.trans f1.same
    cases c with
    | true =>
      refine iteT ⟨fun σ' H' => ∃ ρ m F', Rel X.K R z ρ m σ' H' F' ∧ Same F F' ∧ whileN t1 ts D k ρ m, fun σ' H' q => ⟨k, Nat.lt_succ_self k, q⟩, ?_⟩
      exact s1 z ρ1 m1 σ H1 F1 { D with nx := whileN t1 ts D k, ct := whileN t1 ts D k, bk := D.nx } _ ⟨fun ρ m σ H F I e q => ⟨ρ, m, F, I, s1'.trans e, q⟩, (M.up s1').rt, (M.up s1').nx, fun ρ m σ H F I e q => ⟨ρ, m, F, I, s1'.trans e, q⟩, M.rz⟩ I1 (h1.1 rfl)
    | false => exact iteF (M.nx ρ1 m1 σ H1 F1 I1 s1' (h1.2 rfl))

/-! ### what is walked -/
/-- the walk J gives out the data ds, whatever is changed beside -/
structure Walks (K : PySem.W.Frag) (R : Rs) (z : Z0 R) (F : Hp) (J : It) (ds : List D) : Prop where
  go : ∀ i ρ m σ H F', Rel K R z ρ m σ H F' → Same F F' → i < ds.length → J.go i H
  yld : ∀ i ρ m σ H F' x H' d, Rel K R z ρ m σ H F' → Same F F' → ds[i]? = some d → J.yld i H x H' → ∃ F'', Rel K R z ρ m σ H' F'' ∧ Mv R ρ m σ H F' ρ m σ H' F'' ∧ Dr K F'' x d
  stop : ∀ i ρ m σ H F', Rel K R z ρ m σ H F' → Same F F' → ds.length ≤ i → J.stop i H
theorem Walks.up {K : PySem.W.Frag} {z : Z0 R} {F F' : Hp} {J : It} {ds : List D} (w : Walks K R z F J ds) (s : Same F F') : Walks K R z F' J ds :=
  ⟨fun i ρ m σ H G I e => w.go i ρ m σ H G I (s.trans e), fun i ρ m σ H G x H' d I e => w.yld i ρ m σ H G x H' d I (s.trans e), fun i ρ m σ H G I e => w.stop i ρ m σ H G I (s.trans e)⟩
def SI (K : PySem.W.Frag) (W : WX) (R : Rs) (wi : TI) (t : TL R) : Prop := ∀ (z : Z0 R) (Z : ZC R) (ρ : List En) (m : R.M) (σ : L2.St) (H F : Hp) (Q : KL R) (Rh : It → Hp → Prop), Zok K R z W Z → Rel K R z ρ m σ H F → t Z ρ m Q →
  (∀ J H' F' ρ' m' ds, Rel K R z ρ' m' σ H' F' → Mv R ρ m σ H F ρ' m' σ H' F' → Walks K R z F' J ds → Q ds ρ' m' → Rh J H') → wi σ H Rh
variable (X W R) in
structure DI (tg iter : Expr) (t : TL R) : Prop where
  ex : ∃ wi, PI X tg iter wi ∧ SI X.K W R wi t
/-- a target: the data, the names ahead, those behind -/
abbrev TGd (R : Rs) := D → List En → R.M → (List En → R.M → Prop) → Prop
def SG (K : PySem.W.Frag) (R : Rs) (g : TG) (t : TGd R) (ss : List Nat) : Prop := ∀ (z : Z0 R) (ρ : List En) (m : R.M) (σ : L2.St) (H F : Hp) (v : V) (d : D) (Q : List En → R.M → Prop) (Qh : L2.St → Hp → Prop), Rel K R z ρ m σ H F → Dr K F v d → t d ρ m Q →
  (∀ ρ' m' σ' H' F', Rel K R z ρ' m' σ' H' F' → Mv R ρ m σ H F ρ' m' σ' H' F' → (σ'.length = σ.length ∧ ∀ i, i ∉ ss → σ'[i]? = σ[i]?) → Q ρ' m' → Qh σ' H') → g v σ H Qh
variable (X R) in
structure DG (target : Expr) (t : TGd R) (ss : List Nat) : Prop where
  ex : ∃ g, PG X target g ∧ SG X.K R g t ss
/-- the turns over the data that are left -/
def forD (g : TGd R) (b : TSd R) (E : DEnds R) : List D → List En → R.M → Prop
  | [] => E.nx
  | x :: xs => fun ρ m => g x ρ m fun ρ1 m1 => b { E with nx := forD g b E xs, ct := forD g b E xs, bk := E.nx } ρ1 m1
def sFor (i : TL R) (g : TGd R) (b : TSd R) : TSd R := fun D ρ m => i D.rz ρ m fun xs ρ1 m1 => forD g b D xs ρ1 m1
theorem ds_for {tg iter : Expr} {body : List Stmt} {g : TGd R} {ss : List Nat} (hp : PassesOwn (model X.prog X.w) X.A X.env X.xe) (hc : X.calm = true) (hi : DI X W R tg iter tl) (hg : DG X R tg g ss) (hb : DSs X W R body ts) (hs : ∀ x, foldedSetIterable iter X.env x = pure x := by intro _; rfl) : DS X W R (.For tg iter body [] pos) (sFor tl g ts) := by
  obtain ⟨_, p0, s0⟩ := hi
  obtain ⟨_, p1, s1⟩ := hg
  obtain ⟨_, p2, s2⟩ := hb
  refine ⟨_, ps_for hp hc p0 p1 p2 hs, fun z ρ m σ H F D Dh M I h => ?_⟩
  refine s0 z D.rz ρ m σ H F _ _ M.rz I h fun J H1 F1 ρ1 m1 ds I1 f1 w h1 => ?_
  refine ⟨fun i n σ H => ∃ ρ m F, Rel X.K R z ρ m σ H F ∧ Same F1 F ∧ n = ds.length - i ∧ i ≤ ds.length ∧ forD g ts D (ds.drop i) ρ m, ⟨ds.length, ρ1, m1, F1, I1, Same.refl F1, rfl, Nat.zero_le _, h1⟩, ?_⟩
  rintro i n σ H ⟨ρ, m, F, I, s, rfl, hi, h⟩
  by_cases hlt : i < ds.length
  · refine .inr ⟨w.go i ρ m σ H F I s hlt, fun σ' H' => ∃ ρ m F, Rel X.K R z ρ m σ' H' F ∧ Same F1 F ∧ forD g ts D (ds.drop (i + 1)) ρ m, fun σ' H' ⟨ρ, m, F, I, s, h⟩ => ⟨ds.length - (i + 1), by omega, ρ, m, F, I, s, rfl, hlt, h⟩, fun x H' y => ?_⟩
    rw [List.drop_eq_getElem_cons hlt] at h
    obtain ⟨F2, I2, s2', r2⟩ := w.yld i ρ m σ H F x H' ds[i] I s (List.getElem?_eq_getElem hlt) y
    refine s1 z ρ m σ H' F2 x ds[i] _ _ I2 r2 h fun ρ3 m3 σ3 H3 F3 I3 f3 _ h3 => ?_
    have s3 : Same F1 F3 := (s.trans s2'.same).trans f3.same
    -- within a turn frozen data only grows
    have M3 := M.up (f1.same.trans s3)
    exact s2 z ρ3 m3 σ3 H3 F3 { D with nx := forD g ts D (ds.drop (i + 1)), ct := forD g ts D (ds.drop (i + 1)), bk := D.nx } _ ⟨fun ρ m σ H F I e q => ⟨ρ, m, F, I, s3.trans e, q⟩, M3.rt, M3.nx, fun ρ m σ H F I e q => ⟨ρ, m, F, I, s3.trans e, q⟩, M.rz⟩ I3 h3
  · have e : i = ds.length := by omega
    subst e
    rw [List.drop_length] at h
    exact .inl ⟨w.stop _ ρ m σ H F I s (Nat.le_refl _), M.nx ρ m σ H F I (f1.same.trans s) h⟩
end
end DL

/-! Data layer: operators, subscripts, calls of built-ins, lists. -/
namespace DL
open PySem L2

mutual
/-- as the library's data -/
def D.toP : D → PyData
  | .non => .none
  | .bl b => .bool b
  | .int i => .int i
  | .str x => .str x
  | .lst xs => .list (toPs xs)
  | .tup xs => .tuple (toPs xs)
  | .raw _ => .dict []
  | .slot _ => .dict []
def toPs : List D → List PyData
  | [] => []
  | d :: ds => d.toP :: toPs ds
end
mutual
def D.pl : D → Bool
  | .raw _ => false
  | .slot _ => false
  | .lst xs => pls xs
  | .tup xs => pls xs
  | _ => true
def pls : List D → Bool
  | [] => true
  | d :: ds => d.pl && pls ds
end
section
variable {K : PySem.W.Frag} {F : Hp}
mutual
theorem Dr.dp : ∀ (d : D) (v : V), Dr K F v d → d.pl = true → Dp K F v d.toP
  | .non, _, h, _ => by cases h; exact .non
  | .bl b, _, h, _ => by cases h; exact .bl b
  | .int i, _, h, _ => by cases h; exact .int i
  | .str x, _, h, _ => by cases h; exact .str x
  | .lst ds, _, h, p => by
    cases h with
    | lst q a => exact .lst q (DrAll.dp ds _ a p)
  | .tup ds, _, h, p => by
    cases h with
    | tup q a => exact .tup q (DrAll.dp ds _ a p)
  | .raw v, _, _, p => by cases p
  | .slot _, _, _, p => by cases p
theorem DrAll.dp : ∀ (ds : List D) (vs : List V), DrAll K F vs ds → pls ds = true → DpAll K F vs (toPs ds)
  | [], _, h, _ => by cases h; exact .nil
  | d :: ds, _, h, p => by
    cases h with
    | cons h1 h2 =>
      have q := Bool.and_eq_true_iff.mp (show (d.pl && pls ds) = true from p)
      exact .cons (Dr.dp d _ h1 q.1) (DrAll.dp ds _ h2 q.2)
end
mutual
theorem Dp.up {F' : Hp} (s : Same F F') : ∀ (d : PyData) (v : V), Dp K F v d → Dp K F' v d
  | .none, _, h => by cases h; exact .non
  | .bool b, _, h => by cases h; exact .bl b
  | .int i, _, h => by cases h; exact .int i
  | .str x, _, h => by cases h; exact .str x
  | .list ds, _, h => by
    cases h with
    | lst q a => exact .lst (s.seq q) (DpAll.up s ds _ a)
  | .tuple ds, _, h => by
    cases h with
    | tup q a => exact .tup (Same.sqT s q) (DpAll.up s ds _ a)
  | .dict _, _, h => by cases h
theorem DpAll.up {F' : Hp} (s : Same F F') : ∀ (ds : List PyData) (vs : List V), DpAll K F vs ds → DpAll K F' vs ds
  | [], _, h => by cases h; exact .nil
  | d :: ds, _, h => by
    cases h with
    | cons h1 h2 => exact .cons (Dp.up s d _ h1) (DpAll.up s ds _ h2)
end
end
/-- a name's own list as data -/
def flat (w : Vw) (ρ : List En) : D → D
  | .slot i => match nth ρ i with
    | .own xs => .lst xs
    | _ => .slot i
  | .raw (.ref a) => match w a with
    | some xs => .lst xs
    | none => .raw (.ref a)
  | d => d
theorem Rel.dp {R : Rs} {K : PySem.W.Frag} {z : Z0 R} {ρ : List En} {m : R.M} {σ : L2.St} {H F : Hp} (I : Rel K R z ρ m σ H F) {v : V} {d : D} (r : Dv K σ F v d) (p : (flat (R.view m) ρ d).pl = true) : Dp K H v (flat (R.view m) ρ d).toP := by
  cases d with
  | slot i =>
    cases q : nth ρ i with
    | un => simp [flat, q, D.pl] at p
    | dat e => simp [flat, q, D.pl] at p
    | own xs =>
      have e : flat (R.view m) ρ (.slot i) = .lst xs := by simp [flat, q]
      rw [e] at p ⊢
      obtain ⟨a, ys, h1, h2, h3⟩ := I.listV (d := .slot i) r (show itemsL (R.view m) ρ (.slot i) = some xs by simp [itemsL, q])
      subst h1
      exact .lst h2 (DpAll.up I.sub _ _ (DrAll.dp _ _ h3 p))
  | non => exact Dp.up I.sub _ _ (Dr.dp _ _ r p)
  | bl b => exact Dp.up I.sub _ _ (Dr.dp _ _ r p)
  | int i => exact Dp.up I.sub _ _ (Dr.dp _ _ r p)
  | str x => exact Dp.up I.sub _ _ (Dr.dp _ _ r p)
  | lst xs => exact Dp.up I.sub _ _ (Dr.dp _ _ r p)
  | tup xs => exact Dp.up I.sub _ _ (Dr.dp _ _ r p)
  | raw w =>
    cases w with
    | ref a =>
      cases q : R.view m a with
      | none => simp [flat, q, D.pl] at p
      | some xs =>
        have e : flat (R.view m) ρ (.raw (.ref a)) = .lst xs := by simp [flat, q]
        rw [e] at p ⊢
        obtain ⟨a, ys, h1, h2, h3⟩ := I.listV (d := .raw (.ref a)) r (show itemsL (R.view m) ρ (.raw (.ref a)) = some xs by simp [itemsL, q])
        subst h1
        exact .lst h2 (DpAll.up I.sub _ _ (DrAll.dp _ _ h3 p))
    | _ => cases p

/-! ### operators by values -/
abbrev D2 := Vw → List En → D → D → (D → Prop) → Prop
section
variable (K : PySem.W.Frag) (R : Rs)
def OpL (r : R2) (o : D2) : Prop := ∀ (z : Z0 R) (ρ : List En) (m : R.M) (σ : L2.St) (H F : Hp) (v u : V) (x y : D) (Q : D → Prop) (Qh : VK), Rel K R z ρ m σ H F → Dv K σ F v x → Dv K σ F u y → o (R.view m) ρ x y Q →
  (∀ w H' F' d, Rel K R z ρ m σ H' F' → Mv R ρ m σ H F ρ m σ H' F' → Dr K F' w d → Q d → Qh w H') → r v u H Qh
/-- .. a new list -/
abbrev D2L := Vw → List En → D → D → (List D → Prop) → Prop
def OpO (r : R2) (o : D2L) : Prop := ∀ (z : Z0 R) (ρ : List En) (m : R.M) (σ : L2.St) (H F : Hp) (v u : V) (x y : D) (Q : List D → Prop) (Qh : VK), Rel K R z ρ m σ H F → Dv K σ F v x → Dv K σ F u y → o (R.view m) ρ x y Q →
  (∀ a xs ds H', Rel K R z ρ m σ H' F → Mv R ρ m σ H F ρ m σ H' F → H a = none → Loose K R z ρ m σ H' F a → H' a = some (.lst xs) → DrAll K F xs ds → Q ds → Qh (.ref a) H') → r v u H Qh
end
section
variable {X : Cx} {W : WX} {R : Rs} {a b e : Expr} {pos : Pos} {ta tb te : TD R}
def eOp (o : D2) (ta tb : TD R) : TD R := fun Z ρ m Q => ta Z ρ m fun x ρ1 m1 => tb Z ρ1 m1 fun y ρ2 m2 => o (R.view m2) ρ2 x y fun d => Q d ρ2 m2
def eOpO (o : D2L) (ta tb : TD R) : TL R := fun Z ρ m Q => ta Z ρ m fun x ρ1 m1 => tb Z ρ1 m1 fun y ρ2 m2 => o (R.view m2) ρ2 x y fun d => Q d ρ2 m2
theorem se_op {t1 t2 : TE} {r : R2} {o : D2} (s1 : SE X.K W R t1 ta) (s2 : SE X.K W R t2 tb) (L : OpL X.K R r o) : SE X.K W R (tOp r t1 t2) (eOp o ta tb) := fun z Z ρ m σ H F Q Qh hz I h q =>
  s1 z Z ρ m σ H F _ _ hz I h fun v H1 F1 ρ1 m1 x I1 f1 r1 h1 => s2 z Z ρ1 m1 σ H1 F1 _ _ hz I1 h1 fun u H2 F2 ρ2 m2 y I2 f2 r2 h2 =>
    L z ρ2 m2 σ H2 F2 v u x y _ _ I2 (r1.up f2.same) r2 h2 fun w H' F' d J s rd hq => q w H' F' ρ2 m2 d J ((f1.trans f2).trans s) rd.dv hq
theorem so_op {t1 t2 : TE} {r : R2} {o : D2L} (s1 : SE X.K W R t1 ta) (s2 : SE X.K W R t2 tb) (L : OpO X.K R r o) : SO X.K W R (tOp r t1 t2) (eOpO o ta tb) := fun z Z ρ m σ H F Q Qh hz I h q =>
  s1 z Z ρ m σ H F _ _ hz I h fun v H1 F1 ρ1 m1 x I1 f1 r1 h1 => s2 z Z ρ1 m1 σ H1 F1 _ _ hz I1 h1 fun u H2 F2 ρ2 m2 y I2 f2 r2 h2 =>
    L z ρ2 m2 σ H2 F2 v u x y _ _ I2 (r1.up f2.same) r2 h2 fun a xs ds H' J s hN L hH rd hq => q a xs ds H' F2 ρ2 m2 J ((f1.trans f2).trans s) ((f1.trans f2).free hN) L hH rd hq
theorem de_op {op : Operator} {r : R2} {o : D2} (ho : OpR X (binaryOp op) r) (L : OpL X.K R r o) (ha : DE X W R a ta) (hb : DE X W R b tb) : DE X W R (.BinOp a op b pos) (eOp o ta tb) := by
  obtain ⟨_, p1, s1⟩ := ha
  obtain ⟨_, p2, s2⟩ := hb
  exact ⟨_, pe_op ho p1 p2, se_op s1 s2 L⟩
theorem do_op {op : Operator} {r : R2} {o : D2L} (ho : OpR X (binaryOp op) r) (L : OpO X.K R r o) (ha : DE X W R a ta) (hb : DE X W R b tb) : DO X W R (.BinOp a op b pos) (eOpO o ta tb) := by
  obtain ⟨_, p1, s1⟩ := ha
  obtain ⟨_, p2, s2⟩ := hb
  exact ⟨_, pe_op ho p1 p2, so_op s1 s2 L⟩
theorem de_cmp {op : CmpOp} {r : R2} {o : D2} (ho : OpR X (compareOp op) r) (L : OpL X.K R r o) (ha : DE X W R a ta) (hb : DE X W R b tb) (hm : behindInMarks op b = false) : DE X W R (.Compare a [op] [b] pos) (eOp o ta tb) := by
  obtain ⟨_, p1, s1⟩ := ha
  obtain ⟨_, p2, s2⟩ := hb
  exact ⟨_, pe_cmpR ho p1 p2 hm, se_op s1 s2 L⟩
theorem dt_cmp {op : CmpOp} {r : R2} {o : D2} (ho : OpR X (compareOp op) r) (L : OpL X.K R r o) (ha : DE X W R a ta) (hb : DE X W R b tb) (hm : behindInMarks op b = false) : DT X W R (.Compare a [op] [b] pos) (bOf (eOp o ta tb)) := by
  obtain ⟨_, p1, s1⟩ := ha
  obtain ⟨_, p2, s2⟩ := hb
  refine ⟨_, pt_cmpR ho p1 p2 hm, fun z Z ρ m σ H F Q Qh hz I h q => ?_⟩
  refine se_op s1 s2 L z Z ρ m σ H F _ _ hz I h fun v H' F' ρ' m' d I' s r hq => ?_
  cases d <;> first | exact hq.elim | skip
  rename_i k
  exact ⟨k, r.bl, q k H' F' ρ' m' I' s hq⟩
theorem de_ix {r : R2} {o : D2} (hr : IxR X r) (L : OpL X.K R r o) (ha : DE X W R a ta) (hb : DE X W R b tb) (hs : PlainIx b := by exact fun _ _ => rfl) : DE X W R (.Subscript a b pos) (eOp o ta tb) := by
  obtain ⟨_, p1, s1⟩ := ha
  obtain ⟨_, p2, s2⟩ := hb
  exact ⟨_, pe_ix hr p1 p2 hs, se_op s1 s2 L⟩

/-! ints -/
def dI (C : Int → Int → Prop) (g : Int → Int → D) : D2 := fun _ _ x y Q => match x, y with
  | .int i, .int j => C i j ∧ Q (g i j)
  | _, _ => False
def dI0 (g : Int → Int → D) : D2 := fun _ _ x y Q => match x, y with
  | .int i, .int j => Q (g i j)
  | _, _ => False
theorem opl_I {C : Int → Int → Prop} {f : Int → Int → V} {g : Int → Int → D} (h : ∀ K F i j, Dr K F (f i j) (g i j)) : OpL X.K R (rI C f) (dI C g) := fun z ρ m σ H F v u x y Q Qh I rx ry h0 q => by
  cases x <;> first | exact h0.elim | skip
  cases y <;> first | exact h0.elim | skip
  exact ⟨_, _, rx.int, ry.int, h0.1, q _ H F _ I Mv.refl (h _ _ _ _) h0.2⟩
theorem opl_I0 {f : Int → Int → V} {g : Int → Int → D} (h : ∀ K F i j, Dr K F (f i j) (g i j)) : OpL X.K R (rI0 f) (dI0 g) := fun z ρ m σ H F v u x y Q Qh I rx ry h0 q => by
  cases x <;> first | exact h0.elim | skip
  cases y <;> first | exact h0.elim | skip
  exact ⟨_, _, rx.int, ry.int, q _ H F _ I Mv.refl (h _ _ _ _) h0⟩
/-- products: one side below 2 ^ 64 -/
def MulOk (i j : Int) : Prop := (-(2 ^ 64) < i ∧ i < 2 ^ 64) ∨ (-(2 ^ 64) < j ∧ j < 2 ^ 64)
abbrev dSub : D2 := dI0 fun i j => .int (i - j)
abbrev dMul : D2 := dI CMul fun i j => .int (i * j)
abbrev dMod : D2 := dI (fun _ j => 0 < j) fun i j => .int (i % j)
abbrev dDiv : D2 := dI CDivW fun i j => .int (i / j)
abbrev dPow : D2 := dI CPow fun i j => .int (i ^ j.toNat)
abbrev dShl : D2 := dI CPow fun i j => .int (i * 2 ^ j.toNat)
abbrev dShr : D2 := dI (fun _ j => 0 ≤ j) fun i j => .int (i / 2 ^ j.toNat)
abbrev dLt : D2 := dI0 fun i j => .bl (decide (i < j))
abbrev dLe : D2 := dI0 fun i j => .bl (decide (i ≤ j))
abbrev dGt : D2 := dI0 fun i j => .bl (decide (j < i))
abbrev dGe : D2 := dI0 fun i j => .bl (decide (j ≤ i))
theorem de_sub (ha : DE X W R a ta) (hb : DE X W R b tb) : DE X W R (.BinOp a .Sub b pos) (eOp dSub ta tb) := de_op op_sub (opl_I0 fun _ _ _ _ => .int _) ha hb
theorem de_mul (ha : DE X W R a ta) (hb : DE X W R b tb) : DE X W R (.BinOp a .Mult b pos) (eOp dMul ta tb) := de_op op_mul (opl_I fun _ _ _ _ => .int _) ha hb
theorem de_mod (ha : DE X W R a ta) (hb : DE X W R b tb) : DE X W R (.BinOp a .Mod b pos) (eOp dMod ta tb) := de_op op_mod (opl_I fun _ _ _ _ => .int _) ha hb
theorem de_div (ha : DE X W R a ta) (hb : DE X W R b tb) : DE X W R (.BinOp a .FloorDiv b pos) (eOp dDiv ta tb) := de_op op_fdivW (opl_I fun _ _ _ _ => .int _) ha hb
theorem de_pow (ha : DE X W R a ta) (hb : DE X W R b tb) : DE X W R (.BinOp a .Pow b pos) (eOp dPow ta tb) := de_op op_pow (opl_I fun _ _ _ _ => .int _) ha hb
theorem de_shl (ha : DE X W R a ta) (hb : DE X W R b tb) : DE X W R (.BinOp a .LShift b pos) (eOp dShl ta tb) := de_op op_shl (opl_I fun _ _ _ _ => .int _) ha hb
theorem de_shr (ha : DE X W R a ta) (hb : DE X W R b tb) : DE X W R (.BinOp a .RShift b pos) (eOp dShr ta tb) := de_op op_shr (opl_I fun _ _ _ _ => .int _) ha hb
theorem opr_lt : OpR X (compareOp .Lt) (rI0 fun i j => .bl (decide (i < j))) := op_lt
theorem de_lt (ha : DE X W R a ta) (hb : DE X W R b tb) : DE X W R (.Compare a [.Lt] [b] pos) (eOp dLt ta tb) := de_cmp op_lt (opl_I0 fun _ _ _ _ => .bl _) ha hb (nomark _)
theorem de_gt (ha : DE X W R a ta) (hb : DE X W R b tb) : DE X W R (.Compare a [.Gt] [b] pos) (eOp dGt ta tb) := de_cmp op_gt (opl_I0 fun _ _ _ _ => .bl _) ha hb (nomark _)
theorem de_ge (ha : DE X W R a ta) (hb : DE X W R b tb) : DE X W R (.Compare a [.GtE] [b] pos) (eOp dGe ta tb) := de_cmp op_ge (opl_I0 fun _ _ _ _ => .bl _) ha hb (nomark _)
theorem dt_lt (ha : DE X W R a ta) (hb : DE X W R b tb) : DT X W R (.Compare a [.Lt] [b] pos) (bOf (eOp dLt ta tb)) := dt_cmp op_lt (opl_I0 fun _ _ _ _ => .bl _) ha hb (nomark _)
theorem dt_gt (ha : DE X W R a ta) (hb : DE X W R b tb) : DT X W R (.Compare a [.Gt] [b] pos) (bOf (eOp dGt ta tb)) := dt_cmp op_gt (opl_I0 fun _ _ _ _ => .bl _) ha hb (nomark _)
theorem dt_ge (ha : DE X W R a ta) (hb : DE X W R b tb) : DT X W R (.Compare a [.GtE] [b] pos) (bOf (eOp dGe ta tb)) := dt_cmp op_ge (opl_I0 fun _ _ _ _ => .bl _) ha hb (nomark _)

/-! a union of two readings -/
def rOr (r r' : R2) : R2 := fun x y H Q => r x y H Q ∨ r' x y H Q
theorem opr_or {f : Value → Value → Sem Value} {r r' : R2} (h : OpR X f r) (h' : OpR X f r') : OpR X f (rOr r r') := fun pins s σ H x y v u Q I rx ry q =>
  q.elim (h pins s σ H x y v u Q I rx ry) (h' pins s σ H x y v u Q I rx ry)

/-! + -/
def rCatS (K : PySem.W.Frag) : R2 := fun x y H Q => ∃ l b xs zs, x = .ref l ∧ y = .ref b ∧ SqL K H l xs ∧ SqL K H b zs ∧ xs.length + zs.length ≤ sizeLine ∧ ∀ p, H p = none → Q (.ref p) (upd H p (.lst (xs ++ zs)))
theorem op_catS : OpR X (binaryOp .Add) (rCatS X.K) := by
  intro pins s σ H x y v u Q I rx ry h
  obtain ⟨l, b, xs, zs, rfl, rfl, hl, hb, hz, q⟩ := h
  cases rx
  cases ry
  obtain ⟨its, r1, p1, _⟩ := I.list hl
  obtain ⟨its2, r2, p2, _⟩ := I.list hb
  have e1 := r1.length
  have e2 := r2.length
  obtain ⟨⟨c1, d1, t1, s1⟩, ho, hc, n, hd⟩ := p1.isList
  obtain ⟨⟨c2, d2, t2, s2⟩, ho2, hc2, n2, hd2⟩ := p2.isList
  simp only at hc hd hc2 hd2
  subst hc hd hc2 hd2
  have e : its.toArray ++ its2.toArray = (its ++ its2).toArray := by simp
  refine concat_meets ⟨_, ho, rfl⟩ ⟨_, ho2, rfl⟩ noFill_list_add seq_list_add F.slot_list_add F.entry_list_add (F.args_list_add_2 _ _)
    (PyProof.Rows.list_addW l b its.toArray its2.toArray n n2 d1 d2 s1 s2 (by simp only [List.size_toArray]; omega)) ⟨ho, ho2, ?_⟩
  rw [e]
  refine ⟨.ref _, _, I.laid (t' := s.toks) (o := .lst (xs ++ zs)) (fun c o q => Heap.get?_push_of_some _ q) (Nat.le_refl _) ?_, rfl, q _ (I.hok.fresh (Nat.le_refl _))⟩
  exact ⟨by rw [List.length_append]; exact hz, _, 0, r1.append r2, Heap.get?_push_size _ rfl⟩
def rAddS : R2 := fun x y H Q => ∃ i j, x = .str i ∧ y = .str j ∧ i.length + j.length ≤ sizeLine ∧ Q (.str (i ++ j)) H
def rAddU (K : PySem.W.Frag) : R2 := rOr (rI0 fun i j => .int (i + j)) (rOr rAddS (rOr (rCatA K) (rCatS K)))
theorem op_addU : OpR X (binaryOp .Add) (rAddU X.K) := opr_or op_add (opr_or op_add_str (opr_or op_catA op_catS))
def dCat : D2L := fun w ρ x y Q => match itemsL w ρ x, itemsL w ρ y with
  | some xs, some ys => xs.length + ys.length ≤ sizeLine ∧ Q (xs ++ ys)
  | _, _ => False
def dAdd : D2 := fun w ρ x y Q => match x, y with
  | .int i, .int j => Q (.int (i + j))
  | .str i, .str j => i.length + j.length ≤ sizeLine ∧ Q (.str (i ++ j))
  | .tup xs, .tup ys => xs.length + ys.length ≤ sizeLine ∧ Q (.tup (xs ++ ys))
  | x, y => dCat w ρ x y fun xs => Q (.lst xs)
theorem opo_cat : OpO X.K R (rCatS X.K) dCat := fun z ρ m σ H F v u x y Q Qh I rx ry h0 q => by
  unfold dCat at h0
  cases e1 : itemsL (R.view m) ρ x with
  | none => rw [e1] at h0; exact h0.elim
  | some xs =>
    cases e2 : itemsL (R.view m) ρ y with
    | none => rw [e1, e2] at h0; exact h0.elim
    | some ys =>
      rw [e1, e2] at h0
      obtain ⟨l, vs, rfl, hl, rl⟩ := I.listV rx e1
      obtain ⟨b, us, rfl, hb, rb⟩ := I.listV ry e2
      refine ⟨l, b, vs, us, rfl, rfl, hl, hb, by rw [rl.length, rb.length]; exact h0.1, fun p hp => ?_⟩
      exact q p _ _ _ (I.alloc hp) (Mv.alloc hp) hp (I.loose_new hp) upd_same (rl.append rb) h0.2
theorem OpO.fz {r : R2} {o : D2L} (L : OpO X.K R r o) : OpL X.K R r (fun w ρ x y Q => o w ρ x y fun xs => Q (.lst xs)) := fun z ρ m σ H F v u x y Q Qh I rx ry h0 q =>
  L z ρ m σ H F v u x y _ _ I rx ry h0 fun a xs ds H' J mv hN Lo hH rd hq => by
    obtain ⟨J2, s⟩ := J.freeze Lo hH
    exact q _ H' _ _ J2 (mv.freeze hN Lo.fF) (.lst (SqL.of upd_same) (rd.up s)) hq
theorem opl_add : OpL X.K R (rAddU X.K) dAdd := fun z ρ m σ H F v u x y Q Qh I rx ry h0 q => by
  unfold dAdd at h0
  split at h0
  · exact .inl ⟨_, _, rx.int, ry.int, q _ H F _ I Mv.refl (.int _) h0⟩
  · exact .inr (.inl ⟨_, _, rx.str, ry.str, h0.1, q _ H F _ I Mv.refl (.str _) h0.2⟩)
  · rename_i xs ys
    obtain ⟨a, vs, rfl, ha, ra⟩ := rx.tup
    obtain ⟨b, us, rfl, hb, rb⟩ := ry.tup
    refine .inr (.inr (.inl ⟨a, b, vs, us, rfl, rfl, Same.sqT I.sub ha, Same.sqT I.sub hb, by rw [ra.length, rb.length]; exact h0.1, fun e => ?_, fun _ e => ?_, fun _ _ p hp => ?_⟩))
    · subst e
      cases ra
      exact q _ H F _ I Mv.refl (.tup hb rb) h0.2
    · subst e
      cases rb
      rw [List.append_nil] at h0
      exact q _ H F _ I Mv.refl (.tup ha ra) h0.2
    · obtain ⟨J2, s⟩ := (I.alloc (o := .tup (vs ++ us)) hp).freeze (I.loose_new hp) upd_same
      exact q _ _ _ _ J2 ((Mv.alloc hp).freeze hp (I.sub.free hp)) (.tup (SqT.of upd_same) ((ra.append rb).up s)) h0.2
  · exact .inr (.inr (.inr (OpO.fz opo_cat z ρ m σ H F v u _ _ Q Qh I rx ry h0 q)))
theorem de_add (ha : DE X W R a ta) (hb : DE X W R b tb) : DE X W R (.BinOp a .Add b pos) (eOp dAdd ta tb) := de_op op_addU opl_add ha hb
theorem do_cat (ha : DE X W R a ta) (hb : DE X W R b tb) : DO X W R (.BinOp a .Add b pos) (eOpO dCat ta tb) := do_op op_catS opo_cat ha hb

/-! ==, != -/
def dEqB (w : Vw) (ρ : List En) (x y : D) (Q : Bool → Prop) : Prop := match x, y with
  | .int i, .int j => Q (decide (i = j))
  | .str i, .str j => Q (decide (i = j))
  | .bl i, .bl j => Q (decide (i = j))
  | x, y => (flat w ρ x).pl = true ∧ (flat w ρ y).pl = true ∧ SeqAt.shaped (flat w ρ x).toP = true ∧ SeqAt.shaped (flat w ρ y).toP = true ∧ Q (PyData.eqv (flat w ρ x).toP (flat w ρ y).toP)
def dEq : D2 := fun w ρ x y Q => dEqB w ρ x y fun k => Q (.bl k)
def dNe : D2 := fun w ρ x y Q => dEqB w ρ x y fun k => Q (.bl (!k))
theorem dec_vint {i j : Int} : decide (V.int i = V.int j) = decide (i = j) := by simp
theorem dec_vstr {i j : Str} : decide (V.str i = V.str j) = decide (i = j) := by simp
theorem dec_vbl {i j : Bool} : decide (V.bl i = V.bl j) = decide (i = j) := by simp
theorem opl_eqB {r rd : R2} {fb : Bool → Bool} (hs : ∀ x y H Q, scal x y = true → Q (V.bl (fb (decide (x = y)))) H → r x y H Q)
    (hd : ∀ x y H Q d e, Dp X.K H x d → Dp X.K H y e → SeqAt.shaped d = true → SeqAt.shaped e = true → Q (.bl (fb (PyData.eqv d e))) H → rd x y H Q) : OpL X.K R (rOr r rd) (fun w ρ x y Q => dEqB w ρ x y fun k => Q (.bl (fb k))) := fun z ρ m σ H F v u x y Q Qh I rx ry h0 q => by
  have h0 : dEqB (R.view m) ρ x y fun k => Q (.bl (fb k)) := h0
  unfold dEqB at h0
  split at h0
  · obtain rfl := rx.int
    obtain rfl := ry.int
    exact .inl (hs _ _ _ _ rfl (by rw [dec_vint]; exact q _ H F _ I Mv.refl (.bl _) h0))
  · obtain rfl := rx.str
    obtain rfl := ry.str
    exact .inl (hs _ _ _ _ rfl (by rw [dec_vstr]; exact q _ H F _ I Mv.refl (.bl _) h0))
  · obtain rfl := rx.bl
    obtain rfl := ry.bl
    exact .inl (hs _ _ _ _ rfl (by rw [dec_vbl]; exact q _ H F _ I Mv.refl (.bl _) h0))
  · obtain ⟨p1, p2, s1, s2, hq⟩ := h0
    exact .inr (hd _ _ _ _ _ _ (I.dp rx p1) (I.dp ry p2) s1 s2 (q _ H F _ I Mv.refl (.bl _) hq))
theorem opl_eq : OpL X.K R (rOr rEq (rEqD X.K)) dEq := opl_eqB (fb := fun k => k) (fun _ _ _ _ h q => ⟨h, q⟩) fun _ _ _ _ d e a b c f q => ⟨d, e, a, b, c, f, q⟩
theorem opl_ne : OpL X.K R (rOr rNe (rNeD X.K)) dNe := opl_eqB (fb := fun k => !k) (fun _ _ _ _ h q => ⟨h, q⟩) fun _ _ _ _ d e a b c f q => ⟨d, e, a, b, c, f, q⟩
theorem de_eq (hu : X.A.units + 64 < cLine) (ha : DE X W R a ta) (hb : DE X W R b tb) : DE X W R (.Compare a [.Eq] [b] pos) (eOp dEq ta tb) := de_cmp (opr_or op_eq (op_eqD hu)) opl_eq ha hb (nomark _)
theorem de_ne (hu : X.A.units + 64 < cLine) (ha : DE X W R a ta) (hb : DE X W R b tb) : DE X W R (.Compare a [.NotEq] [b] pos) (eOp dNe ta tb) := de_cmp (opr_or op_ne (op_neD hu)) opl_ne ha hb (nomark _)
theorem dt_eq (hu : X.A.units + 64 < cLine) (ha : DE X W R a ta) (hb : DE X W R b tb) : DT X W R (.Compare a [.Eq] [b] pos) (bOf (eOp dEq ta tb)) := dt_cmp (opr_or op_eq (op_eqD hu)) opl_eq ha hb (nomark _)
theorem dt_ne (hu : X.A.units + 64 < cLine) (ha : DE X W R a ta) (hb : DE X W R b tb) : DT X W R (.Compare a [.NotEq] [b] pos) (bOf (eOp dNe ta tb)) := dt_cmp (opr_or op_ne (op_neD hu)) opl_ne ha hb (nomark _)

/-! is -/
def dIsB (x y : D) (Q : Bool → Prop) : Prop := match x, y with
  | .bl i, .bl j => Q (decide (i = j))
  | .non, .non => Q true
  | .int _, .non => Q false
  | .str _, .non => Q false
  | .bl _, .non => Q false
  | .lst _, .non => Q false
  | .tup _, .non => Q false
  | .raw (.ref _), .non => Q false
  | _, _ => False
def dIs : D2 := fun _ _ x y Q => dIsB x y fun k => Q (.bl k)
def dIsNot : D2 := fun _ _ x y Q => dIsB x y fun k => Q (.bl (!k))
def rIsNon : R2 := fun x y H Q => y = .non ∧ Q (.bl (decide (x = .non))) H
def rIsNot : R2 := fun x y H Q => y = .non ∧ Q (.bl (!decide (x = .non))) H
theorem opl_is {rb rn : R2} {fb : Bool → Bool} (hb : ∀ i j H Q, Q (V.bl (fb (decide (i = j)))) H → rb (.bl i) (.bl j) H Q) (hn : ∀ x H Q, Q (V.bl (fb (decide (x = V.non)))) H → rn x .non H Q) :
    OpL X.K R (rOr rb rn) (fun _ _ x y Q => dIsB x y fun k => Q (.bl (fb k))) := fun z ρ m σ H F v u x y Q Qh I rx ry h0 q => by
  have fin : ∀ k, Q (.bl (fb k)) → Qh (.bl (fb k)) H := fun k h => q _ H F _ I Mv.refl (.bl _) h
  have h0 : dIsB x y fun k => Q (.bl (fb k)) := h0
  unfold dIsB at h0
  split at h0
  · obtain rfl := rx.bl
    obtain rfl := ry.bl
    exact .inl (hb _ _ _ _ (fin _ h0))
  · obtain rfl := rx.non
    obtain rfl := ry.non
    exact .inr (hn _ _ _ (fin _ h0))
  · obtain rfl := rx.int
    obtain rfl := ry.non
    exact .inr (hn _ _ _ (fin _ h0))
  · obtain rfl := rx.str
    obtain rfl := ry.non
    exact .inr (hn _ _ _ (fin _ h0))
  · obtain rfl := rx.bl
    obtain rfl := ry.non
    exact .inr (hn _ _ _ (fin _ h0))
  · obtain ⟨_, _, rfl, _⟩ := rx.lst
    obtain rfl := ry.non
    exact .inr (hn _ _ _ (fin _ h0))
  · obtain ⟨_, _, rfl, _⟩ := rx.tup
    obtain rfl := ry.non
    exact .inr (hn _ _ _ (fin _ h0))
  · obtain rfl := rx.raw
    obtain rfl := ry.non
    exact .inr (hn _ _ _ (fin _ h0))
  · exact h0.elim
theorem de_is (ha : DE X W R a ta) (hb : DE X W R b tb) : DE X W R (.Compare a [.Is] [b] pos) (eOp dIs ta tb) :=
  de_cmp (opr_or op_isBl op_isN) (opl_is (fb := fun k => k) (fun i j _ _ q => ⟨i, j, rfl, rfl, q⟩) fun _ _ _ q => ⟨rfl, q⟩) ha hb (nomark _)
theorem de_isnot (ha : DE X W R a ta) (hb : DE X W R b tb) : DE X W R (.Compare a [.IsNot] [b] pos) (eOp dIsNot ta tb) :=
  de_cmp (opr_or op_notBl op_notN) (opl_is (fb := fun k => !k) (fun i j _ _ q => ⟨i, j, rfl, rfl, q⟩) fun _ _ _ q => ⟨rfl, q⟩) ha hb (nomark _)
theorem dt_is (ha : DE X W R a ta) (hb : DE X W R b tb) : DT X W R (.Compare a [.Is] [b] pos) (bOf (eOp dIs ta tb)) :=
  dt_cmp (opr_or op_isBl op_isN) (opl_is (fb := fun k => k) (fun i j _ _ q => ⟨i, j, rfl, rfl, q⟩) fun _ _ _ q => ⟨rfl, q⟩) ha hb (nomark _)
theorem dt_isnot (ha : DE X W R a ta) (hb : DE X W R b tb) : DT X W R (.Compare a [.IsNot] [b] pos) (bOf (eOp dIsNot ta tb)) :=
  dt_cmp (opr_or op_notBl op_notN) (opl_is (fb := fun k => !k) (fun i j _ _ q => ⟨i, j, rfl, rfl, q⟩) fun _ _ _ q => ⟨rfl, q⟩) ha hb (nomark _)

/-! x in xs, items of any data -/
def dInB (w : Vw) (ρ : List En) (x y : D) (Q : Bool → Prop) : Prop := (flat w ρ x).pl = true ∧ (flat w ρ y).pl = true ∧ SeqAt.shaped (flat w ρ x).toP = true ∧ SeqAt.shaped (flat w ρ y).toP = true ∧ match flat w ρ y with
  | .lst ys => Q ((toPs ys).any fun d => PyData.eqv d (flat w ρ x).toP)
  | _ => False
end
end DL

/-! Data layer: in, subscripts, len, slices, displays, what is walked, targets, changes in place. -/
namespace DL
open PySem L2
section
variable {X : Cx} {W : WX} {R : Rs} {a b c e tg : Expr} {es : List Expr} {pos : Pos} {ta tb te : TD R} {tl : TL R} {tc : TB R}
theorem opl_inB {r : R2} {fb : Bool → Bool} (hr : ∀ x y H Q d ds, Dp X.K H x d → Dp X.K H y (.list ds) → SeqAt.shaped d = true → SeqAt.shaped (.list ds) = true → Q (V.bl (fb (ds.any fun z => PyData.eqv z d))) H → r x y H Q) :
    OpL X.K R r (fun w ρ x y Q => dInB w ρ x y fun k => Q (.bl (fb k))) := fun z ρ m σ H F v u x y Q Qh I rx ry h0 q => by
  obtain ⟨p1, p2, s1, s2, hq⟩ := (show dInB (R.view m) ρ x y fun k => Q (.bl (fb k)) from h0)
  have d1 := I.dp rx p1
  have d2 := I.dp ry p2
  cases e : flat (R.view m) ρ y <;> rw [e] at hq <;> first | exact hq.elim | skip
  rename_i ys
  rw [e] at d2 s2
  exact hr _ _ _ _ _ _ d1 d2 s1 s2 (q _ H F _ I Mv.refl (.bl _) hq)
def dIn : D2 := fun w ρ x y Q => dInB w ρ x y fun k => Q (.bl k)
def dNotIn : D2 := fun w ρ x y Q => dInB w ρ x y fun k => Q (.bl (!k))
theorem de_in (hu : X.A.units + 65 < cLine) (ha : DE X W R a ta) (hb : DE X W R b tb) (hm : behindInMarks .In b = false := by rfl) : DE X W R (.Compare a [.In] [b] pos) (eOp dIn ta tb) :=
  de_cmp (op_inD hu) (opl_inB (fb := fun k => k) fun _ _ _ _ d ds h1 h2 h3 h4 q => ⟨d, ds, h1, h2, h3, h4, q⟩) ha hb hm
theorem de_notin (hu : X.A.units + 65 < cLine) (ha : DE X W R a ta) (hb : DE X W R b tb) (hm : behindInMarks .NotIn b = false := by rfl) : DE X W R (.Compare a [.NotIn] [b] pos) (eOp dNotIn ta tb) :=
  de_cmp (op_notInD hu) (opl_inB (fb := fun k => !k) fun _ _ _ _ d ds h1 h2 h3 h4 q => ⟨d, ds, h1, h2, h3, h4, q⟩) ha hb hm
theorem dt_in (hu : X.A.units + 65 < cLine) (ha : DE X W R a ta) (hb : DE X W R b tb) (hm : behindInMarks .In b = false := by rfl) : DT X W R (.Compare a [.In] [b] pos) (bOf (eOp dIn ta tb)) :=
  dt_cmp (op_inD hu) (opl_inB (fb := fun k => k) fun _ _ _ _ d ds h1 h2 h3 h4 q => ⟨d, ds, h1, h2, h3, h4, q⟩) ha hb hm
theorem dt_notin (hu : X.A.units + 65 < cLine) (ha : DE X W R a ta) (hb : DE X W R b tb) (hm : behindInMarks .NotIn b = false := by rfl) : DT X W R (.Compare a [.NotIn] [b] pos) (bOf (eOp dNotIn ta tb)) :=
  dt_cmp (op_notInD hu) (opl_inB (fb := fun k => !k) fun _ _ _ _ d ds h1 h2 h3 h4 q => ⟨d, ds, h1, h2, h3, h4, q⟩) ha hb hm

/-! ### x[i] -/
def dIx : D2 := fun w ρ x y Q => match y with
  | .int i => match x with
    | .tup xs => ∃ d, atI xs i = some d ∧ Q d
    | .str z => z.length ≤ sizeLine ∧ ∃ c, atI z.cps.toList i = some c ∧ Q (.str ⟨#[c]⟩)
    | x => ∃ xs d, itemsL w ρ x = some xs ∧ atI xs i = some d ∧ Q d
  | _ => False
theorem DrAll.atI {K : PySem.W.Frag} {F : Hp} {vs : List V} {ds : List D} {i : Int} {d : D} (r : DrAll K F vs ds) (h : L2.atI ds i = some d) : ∃ v, L2.atI vs i = some v ∧ Dr K F v d := by
  unfold L2.atI at h ⊢
  rw [r.length]
  cases e : ixN ds.length i with
  | none => rw [e] at h; cases h
  | some j =>
    rw [e] at h
    exact r.get h
theorem opl_ix : OpL X.K R (rIx X.K) dIx := fun z ρ m σ H F v u x y Q Qh I rx ry h0 q => by
  unfold dIx at h0
  cases y <;> first | exact h0.elim | skip
  rename_i i
  obtain rfl := ry.int
  have lst : (∃ xs d, itemsL (R.view m) ρ x = some xs ∧ L2.atI xs i = some d ∧ Q d) → rIx X.K v (.int i) H Qh := fun ⟨xs, d, e, h1, hq⟩ => by
    obtain ⟨p, vs, rfl, hl, rl⟩ := I.listV rx e
    obtain ⟨w, h2, r2⟩ := rl.atI h1
    exact .inl ⟨p, vs, i, w, rfl, rfl, hl, h2, q w H F d I Mv.refl r2 hq⟩
  cases x with
  | tup xs =>
    obtain ⟨d, h1, hq⟩ := h0
    obtain ⟨p, vs, rfl, ht, rt⟩ := rx.tup
    obtain ⟨w, h2, r2⟩ := rt.atI h1
    exact .inr (.inl ⟨p, vs, i, w, rfl, rfl, Same.sqT I.sub ht, h2, q w H F d I Mv.refl r2 hq⟩)
  | str s =>
    obtain ⟨hl, k, h1, hq⟩ := h0
    obtain rfl := rx.str
    exact .inr (.inr ⟨s, i, k, rfl, rfl, hl, h1, q _ H F _ I Mv.refl (.str _) hq⟩)
  | non => exact lst h0
  | bl _ => exact lst h0
  | int _ => exact lst h0
  | lst _ => exact lst h0
  | raw _ => exact lst h0
  | slot _ => exact lst h0
theorem de_at (ha : DE X W R a ta) (hb : DE X W R b tb) (hs : PlainIx b := by exact fun _ _ => rfl) : DE X W R (.Subscript a b pos) (eOp dIx ta tb) := de_ix ix_seq opl_ix ha hb hs

/-! ### calls of built-ins -/
abbrev DL1 := Vw → List En → List D → (D → Prop) → Prop
abbrev DLO := Vw → List En → List D → (List D → Prop) → Prop
variable (X R) in
def ClL (r : List V → Hp → VK → Prop) (o : DL1) : Prop := ∀ (z : Z0 R) (ρ : List En) (m : R.M) (σ : L2.St) (H F : Hp) (vs : List V) (ds : List D) (Q : D → Prop) (Qh : VK), Rel X.K R z ρ m σ H F → DvAll X.K σ F vs ds → o (R.view m) ρ ds Q →
  (∀ w H' F' d, Rel X.K R z ρ m σ H' F' → Mv R ρ m σ H F ρ m σ H' F' → Dr X.K F' w d → Q d → Qh w H') → r vs H Qh
variable (X R) in
def ClO (r : List V → Hp → VK → Prop) (o : DLO) : Prop := ∀ (z : Z0 R) (ρ : List En) (m : R.M) (σ : L2.St) (H F : Hp) (vs : List V) (ds : List D) (Q : List D → Prop) (Qh : VK), Rel X.K R z ρ m σ H F → DvAll X.K σ F vs ds → o (R.view m) ρ ds Q →
  (∀ a xs ds H', Rel X.K R z ρ m σ H' F → Mv R ρ m σ H F ρ m σ H' F → H a = none → Loose X.K R z ρ m σ H' F a → H' a = some (.lst xs) → DrAll X.K F xs ds → Q ds → Qh (.ref a) H') → r vs H Qh
def eCl (o : DL1) (t : TL R) : TD R := fun Z ρ m Q => t Z ρ m fun ds ρ1 m1 => o (R.view m1) ρ1 ds fun d => Q d ρ1 m1
def eClO (o : DLO) (t : TL R) : TL R := fun Z ρ m Q => t Z ρ m fun ds ρ1 m1 => o (R.view m1) ρ1 ds fun d => Q d ρ1 m1
theorem ClO.fz {r : List V → Hp → VK → Prop} {o : DLO} (L : ClO X R r o) : ClL X R r (fun w ρ ds Q => o w ρ ds fun xs => Q (.lst xs)) := fun z ρ m σ H F vs ds Q Qh I rs h0 q =>
  L z ρ m σ H F vs ds _ _ I rs h0 fun a xs ds H' J mv hN Lo hH rd hq => by
    obtain ⟨J2, s⟩ := J.freeze Lo hH
    exact q _ H' _ _ J2 (mv.freeze hN Lo.fF) (.lst (SqL.of upd_same) (rd.up s)) hq
theorem ClL.or {r r' : List V → Hp → VK → Prop} {o o' : DL1} (h : ClL X R r o) (h' : ClL X R r' o') : ClL X R (fun vs H Q => r vs H Q ∨ r' vs H Q) (fun w ρ ds Q => o w ρ ds Q ∨ o' w ρ ds Q) := fun z ρ m σ H F vs ds Q Qh I rs h0 q =>
  h0.elim (fun h0 => .inl (h z ρ m σ H F vs ds Q Qh I rs h0 q)) fun h0 => .inr (h' z ρ m σ H F vs ds Q Qh I rs h0 q)
section
variable {id T : String} {x : Str} {p : Pos} {r : List V → Hp → VK → Prop} {o : DL1} {oo : DLO}
theorem se_cl {t : TA} {n : Nat} (s1 : SA X.K W R t tl n) (L : ClL X R r o) : SE X.K W R (tCB r t) (eCl o tl) := fun z Z ρ m σ H F Q Qh hz I h q =>
  s1 z Z ρ m σ H F _ _ hz I h fun vs H1 F1 ρ1 m1 ds I1 f1 r1 _ h1 => L z ρ1 m1 σ H1 F1 vs ds _ _ I1 r1 h1 fun w H' F' d J s rd hq => q w H' F' ρ1 m1 d J (f1.trans s) rd.dv hq
theorem so_cl {t : TA} {n : Nat} (s1 : SA X.K W R t tl n) (L : ClO X R r oo) : SO X.K W R (tCB r t) (eClO oo tl) := fun z Z ρ m σ H F Q Qh hz I h q =>
  s1 z Z ρ m σ H F _ _ hz I h fun vs H1 F1 ρ1 m1 ds I1 f1 r1 _ h1 => L z ρ1 m1 σ H1 F1 vs ds _ _ I1 r1 h1 fun a xs ds H' J mv hN Lo hH rd hq => q a xs ds H' F1 ρ1 m1 J (f1.trans mv) (f1.free hN) Lo hH rd hq
theorem de_callB (hc : CallR X (.builtin id) r) (L : ClL X R r o) (hg : Gl X x) (hm : X.mg x = none) (hv : bootBuiltins x = some (.builtin id)) (ha : DA X W R (e :: es) tl) (hn : x ≠ "__name__" := by decide) (hdb : (x == ("__debug__" : Str)) = false := by decide)
    (he : starEach (e :: es) X.env = (false, eval e X.env) :: starEach es X.env := by rfl) (hpl : (backTo pos (starEach es X.env)).any (·.1) = false := by rfl) : DE X W R (.Call (.Name x p) (e :: es) [] pos) (eCl o tl) := by
  obtain ⟨_, p1, s1⟩ := ha
  exact ⟨_, pe_callB hc hg hm hv p1 hn hdb he hpl, se_cl s1 L⟩
theorem do_callB (hc : CallR X (.builtin id) r) (L : ClO X R r oo) (hg : Gl X x) (hm : X.mg x = none) (hv : bootBuiltins x = some (.builtin id)) (ha : DA X W R (e :: es) tl) (hn : x ≠ "__name__" := by decide) (hdb : (x == ("__debug__" : Str)) = false := by decide)
    (he : starEach (e :: es) X.env = (false, eval e X.env) :: starEach es X.env := by rfl) (hpl : (backTo pos (starEach es X.env)).any (·.1) = false := by rfl) : DO X W R (.Call (.Name x p) (e :: es) [] pos) (eClO oo tl) := by
  obtain ⟨_, p1, s1⟩ := ha
  exact ⟨_, pe_callB hc hg hm hv p1 hn hdb he hpl, so_cl s1 L⟩
theorem de_callTy (hc : CallR X (.type T) r) (L : ClL X R r o) (hg : Gl X x) (hm : X.mg x = none) (hv : bootBuiltins x = some (.type T)) (ha : DA X W R (e :: es) tl) (hn : x ≠ "__name__" := by decide) (hdb : (x == ("__debug__" : Str)) = false := by decide)
    (he : starEach (e :: es) X.env = (false, eval e X.env) :: starEach es X.env := by rfl) (hpl : (backTo pos (starEach es X.env)).any (·.1) = false := by rfl) : DE X W R (.Call (.Name x p) (e :: es) [] pos) (eCl o tl) := by
  obtain ⟨_, p1, s1⟩ := ha
  exact ⟨_, pe_callTy hc hg hm hv p1 hn hdb he hpl, se_cl s1 L⟩
theorem do_callTy (hc : CallR X (.type T) r) (L : ClO X R r oo) (hg : Gl X x) (hm : X.mg x = none) (hv : bootBuiltins x = some (.type T)) (ha : DA X W R (e :: es) tl) (hn : x ≠ "__name__" := by decide) (hdb : (x == ("__debug__" : Str)) = false := by decide)
    (he : starEach (e :: es) X.env = (false, eval e X.env) :: starEach es X.env := by rfl) (hpl : (backTo pos (starEach es X.env)).any (·.1) = false := by rfl) : DO X W R (.Call (.Name x p) (e :: es) [] pos) (eClO oo tl) := by
  obtain ⟨_, p1, s1⟩ := ha
  exact ⟨_, pe_callTy hc hg hm hv p1 hn hdb he hpl, so_cl s1 L⟩
end
theorem DvAll.one {K : PySem.W.Frag} {σ : L2.St} {F : Hp} {vs : List V} {d : D} (h : DvAll K σ F vs [d]) : ∃ v, vs = [v] ∧ Dv K σ F v d := by
  cases h with
  | cons a t => cases t; exact ⟨_, rfl, a⟩
theorem DvAll.two {K : PySem.W.Frag} {σ : L2.St} {F : Hp} {vs : List V} {d d' : D} (h : DvAll K σ F vs [d, d']) : ∃ v v', vs = [v, v'] ∧ Dv K σ F v d ∧ Dv K σ F v' d' := by
  cases h with
  | cons a t =>
    obtain ⟨v', rfl, b⟩ := t.one
    exact ⟨_, _, rfl, a, b⟩
/-- len -/
def dLen : DL1 := fun w ρ ds Q => match ds with
  | [.str z] => z.length ≤ sizeLine ∧ Q (.int z.length)
  | [.tup xs] => Q (.int xs.length)
  | [d] => match itemsL w ρ d with
    | some xs => Q (.int xs.length)
    | none => False
  | _ => False
theorem cl_len : ClL X R (fun xs H Q => ∃ x n, xs = [x] ∧ LenV X.K x H n ∧ Q (.int n) H) dLen := fun z ρ m σ H F vs ds Q Qh I rs h0 q => by
  unfold dLen at h0
  split at h0
  · obtain ⟨v, rfl, r⟩ := rs.one
    obtain rfl := r.str
    exact ⟨_, _, rfl, ⟨h0.1, rfl⟩, q _ H F _ I Mv.refl (.int _) h0.2⟩
  · obtain ⟨v, rfl, r⟩ := rs.one
    obtain ⟨a, xs, rfl, ht, ra⟩ := r.tup
    exact ⟨_, _, rfl, .inr ⟨xs, Same.sqT I.sub ht, rfl⟩, by rw [ra.length]; exact q _ H F _ I Mv.refl (.int _) h0⟩
  · rename_i d _ _
    obtain ⟨v, rfl, r⟩ := rs.one
    cases e : itemsL (R.view m) ρ d with
    | none => rw [e] at h0; exact h0.elim
    | some xs =>
      rw [e] at h0
      obtain ⟨a, ys, rfl, hl, ra⟩ := I.listV r e
      exact ⟨_, _, rfl, .inl ⟨ys, hl, rfl⟩, by rw [ra.length]; exact q _ H F _ I Mv.refl (.int _) h0⟩
  · exact h0.elim
theorem de_len {p : Pos} (hg : Gl X "len") (hm : X.mg "len" = none) (ha : DA X W R [e] tl) (he : starEach [e] X.env = (false, eval e X.env) :: starEach [] X.env := by rfl) (hpl : (backTo pos (starEach [] X.env)).any (·.1) = false := by rfl) : DE X W R (.Call (.Name "len" p) [e] [] pos) (eCl dLen tl) :=
  de_callB call_len cl_len hg hm PySem.boot_len ha (he := he) (hpl := hpl)
/-- list(xs) -/
def dListO : DLO := fun w ρ ds Q => match ds with
  | [.tup xs] => Q xs
  | [d] => match itemsL w ρ d with
    | some xs => Q xs
    | none => False
  | _ => False
theorem cl_list : ClO X R (fun xs H Q => ∃ p ys, xs = [.ref p] ∧ (SqL X.K H p ys ∨ SqT X.K H p ys) ∧ ∀ l, H l = none → Q (.ref l) (upd H l (.lst ys))) dListO := fun z ρ m σ H F vs ds Q Qh I rs h0 q => by
  unfold dListO at h0
  split at h0
  · obtain ⟨v, rfl, r⟩ := rs.one
    obtain ⟨a, xs, rfl, ht, ra⟩ := r.tup
    exact ⟨_, _, rfl, .inr (Same.sqT I.sub ht), fun l hl => q l _ _ _ (I.alloc hl) (Mv.alloc hl) hl (I.loose_new hl) upd_same ra h0⟩
  · rename_i d _
    obtain ⟨v, rfl, r⟩ := rs.one
    cases e : itemsL (R.view m) ρ d with
    | none => rw [e] at h0; exact h0.elim
    | some xs =>
      rw [e] at h0
      obtain ⟨a, ys, rfl, hl, ra⟩ := I.listV r e
      exact ⟨_, _, rfl, .inl hl, fun l hl => q l _ _ _ (I.alloc hl) (Mv.alloc hl) hl (I.loose_new hl) upd_same ra h0⟩
  · exact h0.elim
theorem do_list {p : Pos} (hg : Gl X "list") (hm : X.mg "list" = none) (ha : DA X W R [e] tl) (he : starEach [e] X.env = (false, eval e X.env) :: starEach [] X.env := by rfl) (hpl : (backTo pos (starEach [] X.env)).any (·.1) = false := by rfl) : DO X W R (.Call (.Name "list" p) [e] [] pos) (eClO dListO tl) :=
  do_callTy call_list_of cl_list hg hm (by decide +kernel) ha (he := he) (hpl := hpl)

/-! ### slices -/
abbrev TP (R : Rs) := ZC R → List En → R.M → (Option Int → List En → R.M → Prop) → Prop
def pNo : TP R := fun _ ρ m Q => Q none ρ m
def pSome (t : TD R) : TP R := fun Z ρ m Q => t Z ρ m fun d ρ1 m1 => match d with
  | .int i => Q (some i) ρ1 m1
  | _ => False
variable (X W R) in
structure DP (e : Option Expr) (t : TP R) : Prop where
  ex : ∃ to : TO, PO X e to ∧ ∀ (z : Z0 R) (Z : ZC R) (ρ : List En) (m : R.M) (σ : L2.St) (H F : Hp) (Q : Option Int → List En → R.M → Prop) (Qh : Option Int → Hp → Prop), Zok X.K R z W Z → Rel X.K R z ρ m σ H F → t Z ρ m Q →
    (∀ i H' F' ρ' m', Rel X.K R z ρ' m' σ H' F' → Mv R ρ m σ H F ρ' m' σ H' F' → Q i ρ' m' → Qh i H') → to σ H Qh
theorem dp_none : DP X W R none pNo := ⟨_, po_none, fun z Z ρ m σ H F Q Qh hz I h q => q none H F ρ m I Mv.refl h⟩
theorem dp_some (h : DE X W R e te) : DP X W R (some e) (pSome te) := by
  obtain ⟨_, p1, s1⟩ := h
  refine ⟨_, po_some p1, fun z Z ρ m σ H F Q Qh hz I h q => ?_⟩
  refine s1 z Z ρ m σ H F _ _ hz I h fun v H' F' ρ' m' d I' s r hq => ?_
  cases d <;> first | exact hq.elim | skip
  exact ⟨_, r.int, q _ H' F' ρ' m' I' s hq⟩
def cutD (xs : List D) (lo hi : Option Int) : List D := (xs.drop (HT.sIx xs.length 0 lo)).take (HT.sIx xs.length xs.length hi - HT.sIx xs.length 0 lo)
theorem DrAll.cut {K : PySem.W.Frag} {F : Hp} {vs : List V} {ds : List D} (r : DrAll K F vs ds) (lo hi : Option Int) : DrAll K F (cutV vs lo hi) (cutD ds lo hi) := by
  unfold cutV cutD
  rw [r.length]
  exact (r.drop _).take _
def eSlO (t : TD R) (lo hi : TP R) : TL R := fun Z ρ m Q => t Z ρ m fun d ρ1 m1 => lo Z ρ1 m1 fun i ρ2 m2 => hi Z ρ2 m2 fun j ρ3 m3 => match itemsL (R.view m3) ρ3 d with
  | some xs => Q (cutD xs i j) ρ3 m3
  | none => False
/-- of a text, of a tuple, of a list -/
def eSl (t : TD R) (lo hi : TP R) : TD R := fun Z ρ m Q => t Z ρ m fun d ρ1 m1 => lo Z ρ1 m1 fun i ρ2 m2 => hi Z ρ2 m2 fun j ρ3 m3 => match d with
  | .str z => z.length ≤ sizeLine ∧ Q (.str (cutS z i j)) ρ3 m3
  | .tup xs => Q (.tup (cutD xs i j)) ρ3 m3
  | d => match itemsL (R.view m3) ρ3 d with
    | some xs => Q (.lst (cutD xs i j)) ρ3 m3
    | none => False
variable {lo hi : Option Expr} {t1 t2 : TP R} {p2 : Pos}
theorem do_slice (he : DE X W R e te) (hl : DP X W R lo t1) (hh : DP X W R hi t2) : DO X W R (.Subscript e (.Slice lo hi none p2) pos) (eSlO te t1 t2) := by
  obtain ⟨_, p0, s0⟩ := he
  obtain ⟨_, p1, s1⟩ := hl
  obtain ⟨_, p2, s2⟩ := hh
  refine ⟨_, pe_slice sl_list p0 p1 p2, fun z Z ρ m σ H F Q Qh hz I h q => ?_⟩
  refine s0 z Z ρ m σ H F _ _ hz I h fun v H1 F1 ρ1 m1 d I1 f1 r1 h1 => s1 z Z ρ1 m1 σ H1 F1 _ _ hz I1 h1 fun i H2 F2 ρ2 m2 I2 f2 h2 => s2 z Z ρ2 m2 σ H2 F2 _ _ hz I2 h2 fun j H3 F3 ρ3 m3 I3 f3 h3 => ?_
  cases q3 : itemsL (R.view m3) ρ3 d with
  | none => rw [q3] at h3; exact h3.elim
  | some xs =>
    rw [q3] at h3
    obtain ⟨a, vs, rfl, hl, ra⟩ := I3.listV ((r1.up f2.same).up f3.same) q3
    exact ⟨a, vs, rfl, hl, fun p hp => q p _ _ _ F3 ρ3 m3 (I3.alloc hp) (((f1.trans f2).trans f3).trans (Mv.alloc hp)) (((f1.trans f2).trans f3).free hp) (I3.loose_new hp) upd_same (ra.cut i j) h3⟩
def rSlU (K : PySem.W.Frag) : V → Option Int → Option Int → Hp → VK → Prop := fun x lo hi H Q => rSlS x lo hi H Q ∨ rSlA K x lo hi H Q ∨ rSlL K x lo hi H Q
theorem cut_all {xs : List D} {lo hi : Option Int} (h : HT.sIx xs.length 0 lo = 0 ∧ HT.sIx xs.length xs.length hi = xs.length) : cutD xs lo hi = xs := by
  unfold cutD
  rw [h.1, h.2]
  simp
theorem de_slice (he : DE X W R e te) (hl : DP X W R lo t1) (hh : DP X W R hi t2) : DE X W R (.Subscript e (.Slice lo hi none p2) pos) (eSl te t1 t2) := by
  obtain ⟨_, p0, s0⟩ := he
  obtain ⟨_, p1, s1⟩ := hl
  obtain ⟨_, p2, s2⟩ := hh
  refine ⟨_, pe_slice (sl_str.or (sl_tupA.or sl_list)) p0 p1 p2, fun z Z ρ m σ H F Q Qh hz I h q => ?_⟩
  refine s0 z Z ρ m σ H F _ _ hz I h fun v H1 F1 ρ1 m1 d I1 f1 r1 h1 => s1 z Z ρ1 m1 σ H1 F1 _ _ hz I1 h1 fun i H2 F2 ρ2 m2 I2 f2 h2 => s2 z Z ρ2 m2 σ H2 F2 _ _ hz I2 h2 fun j H3 F3 ρ3 m3 I3 f3 h3 => ?_
  have r3 := (r1.up f2.same).up f3.same
  have f := (f1.trans f2).trans f3
  have lst : (match itemsL (R.view m3) ρ3 d with
      | some xs => Q (.lst (cutD xs i j)) ρ3 m3
      | none => False) → rSlU X.K v i j H3 Qh := fun h3 => by
    cases q3 : itemsL (R.view m3) ρ3 d with
    | none => rw [q3] at h3; exact h3.elim
    | some xs =>
      rw [q3] at h3
      obtain ⟨a, vs, rfl, hl, ra⟩ := I3.listV r3 q3
      refine .inr (.inr ⟨a, vs, rfl, hl, fun p hp => ?_⟩)
      obtain ⟨J2, s⟩ := (I3.alloc (o := .lst (cutV vs i j)) hp).freeze (I3.loose_new hp) upd_same
      exact q _ _ _ ρ3 m3 _ J2 (f.trans ((Mv.alloc hp).freeze hp (I3.sub.free hp))) (Dr.dv (.lst (SqL.of upd_same) ((ra.cut i j).up s))) h3
  cases d with
  | str s =>
    obtain rfl := r3.str
    exact .inl ⟨s, rfl, h3.1, q _ H3 F3 ρ3 m3 _ I3 f (Dr.dv (.str _)) h3.2⟩
  | tup xs =>
    obtain ⟨a, vs, rfl, ht, ra⟩ := r3.tup
    refine .inr (.inl ⟨a, vs, rfl, Same.sqT I3.sub ht, fun hw => ?_, fun hw p hp => ?_⟩)
    · rw [ra.length] at hw
      have h3 : Q (.tup (cutD xs i j)) ρ3 m3 := h3
      rw [cut_all hw] at h3
      exact q _ H3 F3 ρ3 m3 _ I3 f r3 h3
    · obtain ⟨J2, s⟩ := (I3.alloc (o := .tup (cutV vs i j)) hp).freeze (I3.loose_new hp) upd_same
      exact q _ _ _ ρ3 m3 _ J2 (f.trans ((Mv.alloc hp).freeze hp (I3.sub.free hp))) (Dr.dv (.tup (SqT.of upd_same) ((ra.cut i j).up s))) h3
  | non => exact lst h3
  | bl _ => exact lst h3
  | int _ => exact lst h3
  | lst _ => exact lst h3
  | raw _ => exact lst h3
  | slot _ => exact lst h3
/-- xs[::-1] -/
def eRevO (t : TD R) : TL R := fun Z ρ m Q => t Z ρ m fun d ρ1 m1 => match itemsL (R.view m1) ρ1 d with
  | some xs => Q xs.reverse ρ1 m1
  | none => False
theorem do_rev {k : Nat} {p1 p3 p4 : Pos} (he : DE X W R e te) : DO X W R (.Subscript e (.Slice none none (some (.UnaryOp .USub (.Constant (.int 1) k p1) p3)) p4) pos) (eRevO te) := by
  obtain ⟨_, p0, s0⟩ := he
  refine ⟨_, pe_revL p0, fun z Z ρ m σ H F Q Qh hz I h q => ?_⟩
  refine s0 z Z ρ m σ H F _ _ hz I h fun v H1 F1 ρ1 m1 d I1 f1 r1 h1 => ?_
  cases q3 : itemsL (R.view m1) ρ1 d with
  | none => rw [q3] at h1; exact h1.elim
  | some xs =>
    rw [q3] at h1
    obtain ⟨a, vs, rfl, hl, ra⟩ := I1.listV r1 q3
    exact ⟨a, vs, rfl, hl, fun p hp => q p _ _ _ F1 ρ1 m1 (I1.alloc hp) (f1.trans (Mv.alloc hp)) (f1.free hp) (I1.loose_new hp) upd_same ra.reverse h1⟩

/-! ### displays -/
def eLst (t : TL R) : TL R := fun Z ρ m Q => t Z ρ m fun ds ρ1 m1 => Firms ds ∧ ds.length ≤ sizeLine ∧ Q ds ρ1 m1
def eTup (t : TL R) : TD R := fun Z ρ m Q => t Z ρ m fun ds ρ1 m1 => Firms ds ∧ ds.length ≤ sizeLine ∧ Q (.tup ds) ρ1 m1
theorem do_lst (h : DA X W R es tl) : DO X W R (.List es pos) (eLst tl) := by
  obtain ⟨_, p1, s1⟩ := h
  refine ⟨_, pe_lst p1, fun z Z ρ m σ H F Q Qh hz I h q => ?_⟩
  refine s1 z Z ρ m σ H F _ _ hz I h fun vs H1 F1 ρ1 m1 ds I1 f1 r1 _ h1 => ?_
  have r := r1.dr h1.1
  exact ⟨by rw [r.length]; exact h1.2.1, fun p hp => q p _ _ _ F1 ρ1 m1 (I1.alloc hp) (f1.trans (Mv.alloc hp)) (f1.free hp) (I1.loose_new hp) upd_same r h1.2.2⟩
theorem de_tup {x1} (h : DA X W R es tl) : DE X W R (.Tuple es x1 pos) (eTup tl) := by
  obtain ⟨_, p1, s1⟩ := h
  refine ⟨_, pe_tup p1, fun z Z ρ m σ H F Q Qh hz I h q => ?_⟩
  refine s1 z Z ρ m σ H F _ _ hz I h fun vs H1 F1 ρ1 m1 ds I1 f1 r1 _ h1 => ?_
  have r := r1.dr h1.1
  refine ⟨by rw [r.length]; exact h1.2.1, fun p hp => ?_⟩
  obtain ⟨J2, s⟩ := (I1.alloc (o := .tup vs) hp).freeze (I1.loose_new hp) upd_same
  exact q _ _ _ ρ1 m1 _ J2 (f1.trans ((Mv.alloc hp).freeze hp (I1.sub.free hp))) (Dr.dv (.tup (SqT.of upd_same) (r.up s))) h1.2.2

/-! ### what is walked -/
/-- data that is a list -/
def iLst (t : TD R) : TL R := fun Z ρ m Q => t Z ρ m fun d ρ1 m1 => match d with
  | .lst xs => Q xs ρ1 m1
  | _ => False
theorem walks_list {K : PySem.W.Frag} {z : Z0 R} {F : Hp} {a : Addr} {xs : List V} {ds : List D} (hl : SqL K F a xs) (r : DrAll K F xs ds) : Walks K R z F (Itl K a) ds where
  go := fun i ρ m σ H F' I s hi => by
    have hx : i < xs.length := by rw [r.length]; exact hi
    exact ⟨xs, xs[i], I.sub.seq (s.seq hl), List.getElem?_eq_getElem hx⟩
  yld := fun i ρ m σ H F' x H' d I s hd y => by
    obtain ⟨e, y⟩ := y
    subst e
    have h := y xs (I.sub.seq (s.seq hl))
    obtain ⟨v, h1, h2⟩ := r.get hd
    rw [h] at h1
    cases h1
    exact ⟨F', I, Mv.refl, h2.up s⟩
  stop := fun i ρ m σ H F' I s hi => ⟨xs, I.sub.seq (s.seq hl), by rw [r.length]; exact hi⟩
theorem di_list (h : DE X W R e te) : DI X W R tg e (iLst te) := by
  obtain ⟨_, p1, s1⟩ := h
  refine ⟨_, pi_list p1, fun z Z ρ m σ H F Q Rh hz I h q => ?_⟩
  refine s1 z Z ρ m σ H F _ _ hz I h fun v H1 F1 ρ1 m1 d I1 f1 r1 h1 => ?_
  cases d <;> first | exact h1.elim | skip
  rename_i ds
  obtain ⟨a, xs, rfl, hl, ra⟩ := r1.lst
  exact ⟨a, rfl, ⟨xs, I1.sub.seq hl⟩, q _ H1 F1 ρ1 m1 ds I1 f1 (walks_list hl ra) h1⟩
def iTupD (t : TD R) : TL R := fun Z ρ m Q => t Z ρ m fun d ρ1 m1 => match d with
  | .tup xs => Q xs ρ1 m1
  | _ => False
theorem di_tup (h : DE X W R e te) : DI X W R tg e (iTupD te) := by
  obtain ⟨_, p1, s1⟩ := h
  refine ⟨_, pi_tup p1, fun z Z ρ m σ H F Q Rh hz I h q => ?_⟩
  refine s1 z Z ρ m σ H F _ _ hz I h fun v H1 F1 ρ1 m1 d I1 f1 r1 h1 => ?_
  cases d <;> first | exact h1.elim | skip
  rename_i ds
  obtain ⟨a, xs, rfl, ht, ra⟩ := r1.tup
  refine ⟨a, rfl, ⟨xs, Same.sqT I1.sub ht⟩, q _ H1 F1 ρ1 m1 ds I1 f1 ⟨fun i ρ m σ H F' I s hi => ?_, fun i ρ m σ H F' x H' d I s hd y => ?_, fun i ρ m σ H F' I s hi => ?_⟩ h1⟩
  · have hx : i < xs.length := by rw [ra.length]; exact hi
    exact ⟨xs, xs[i], Same.sqT I.sub (Same.sqT s ht), List.getElem?_eq_getElem hx⟩
  · obtain ⟨e, y⟩ := y
    subst e
    have h := y xs (Same.sqT I.sub (Same.sqT s ht))
    obtain ⟨v, h1, h2⟩ := ra.get hd
    rw [h] at h1
    cases h1
    exact ⟨F', I, Mv.refl, h2.up s⟩
  · exact ⟨xs, Same.sqT I.sub (Same.sqT s ht), by rw [ra.length]; exact hi⟩
/-- lo, lo + c, ..: n numbers -/
def numsD (lo c : Int) (n : Nat) : List D := (List.range n).map fun (k : Nat) => .int (lo + (k : Int) * c)
theorem walks_nums {K : PySem.W.Frag} {z : Z0 R} {F : Hp} {J : It} {lo c : Int} {n : Nat} (h1 : ∀ i H, i < n → J.go i H) (h2 : ∀ i H x H', J.yld i H x H' → H' = H ∧ x = .int (lo + (i : Nat) * c)) (h3 : ∀ i H, n ≤ i → J.stop i H) : Walks K R z F J (numsD lo c n) where
  go := fun i ρ m σ H F' I s hi => h1 i H (by simpa [numsD] using hi)
  yld := fun i ρ m σ H F' x H' d I s hd y => by
    obtain ⟨e1, e2⟩ := h2 i H x H' y
    subst e1 e2
    have hn : i < n := by simpa [numsD] using lt_of_get hd
    have e : d = .int (lo + (i : Int) * c) := by simpa [numsD, hn] using hd.symm
    subst e
    exact ⟨F', I, Mv.refl, .int _⟩
  stop := fun i ρ m σ H F' I s hi => h3 i H (by simpa [numsD] using hi)
def small62 (i : Int) : Prop := -(2 ^ 62) ≤ i ∧ i < 2 ^ 62
def iRange1 (t : TL R) : TL R := fun Z ρ m Q => t Z ρ m fun ds ρ1 m1 => match ds with
  | [.int j] => small62 j ∧ Q (numsD 0 1 j.toNat) ρ1 m1
  | _ => False
def iRange2 (t : TL R) : TL R := fun Z ρ m Q => t Z ρ m fun ds ρ1 m1 => match ds with
  | [.int i, .int j] => small62 i ∧ small62 j ∧ Q (numsD i 1 (j - i).toNat) ρ1 m1
  | _ => False
theorem di_range1 {p : Pos} (hg : Gl X "range") (hm : X.mg "range" = none) (ha : DA X W R [a] tl) (hs : starEach [a] X.env = [(false, eval a X.env)] := by rfl) : DI X W R tg (.Call (.Name "range" p) [a] [] pos) (iRange1 tl) := by
  obtain ⟨_, p1, s1⟩ := ha
  refine ⟨_, pi_range1 hg hm p1 hs, fun z Z ρ m σ H F Q Rh hz I h q => ?_⟩
  refine s1 z Z ρ m σ H F _ _ hz I h fun vs H1 F1 ρ1 m1 ds I1 f1 r1 _ h1 => ?_
  split at h1
  · rename_i j
    obtain ⟨v, rfl, r⟩ := r1.one
    obtain rfl := r.int
    exact ⟨j, rfl, h1.1.1, h1.1.2, q _ H1 F1 ρ1 m1 _ I1 f1 (walks_nums (fun i H hi => hi) (fun i H x H' y => ⟨y.1, by rw [y.2]; simp⟩) fun i H hi => hi) h1.2⟩
  · exact h1.elim
theorem di_range2 {p : Pos} (hg : Gl X "range") (hm : X.mg "range" = none) (ha : DA X W R [a, b] tl) (hs : starEach [a, b] X.env = [(false, eval a X.env), (false, eval b X.env)] := by rfl) (hs2 : starEach [b] X.env = [(false, eval b X.env)] := by rfl) :
    DI X W R tg (.Call (.Name "range" p) [a, b] [] pos) (iRange2 tl) := by
  obtain ⟨_, p1, s1⟩ := ha
  refine ⟨_, pi_range2 hg hm p1 hs hs2, fun z Z ρ m σ H F Q Rh hz I h q => ?_⟩
  refine s1 z Z ρ m σ H F _ _ hz I h fun vs H1 F1 ρ1 m1 ds I1 f1 r1 _ h1 => ?_
  split at h1
  · rename_i i j
    obtain ⟨v, v', rfl, r, r'⟩ := r1.two
    obtain rfl := r.int
    obtain rfl := r'.int
    exact ⟨i, j, rfl, ⟨h1.1.1, h1.1.2, h1.2.1.1, h1.2.1.2⟩, q _ H1 F1 ρ1 m1 _ I1 f1 (walks_nums (fun i H hi => hi) (fun i H x H' y => ⟨y.1, by rw [y.2]; simp⟩) fun i H hi => hi) h1.2.2⟩
  · exact h1.elim
/-- pairs from two lists -/
def iZipD (t : TL R) : TL R := fun Z ρ m Q => t Z ρ m fun ds ρ1 m1 => match ds with
  | [.lst xs, .lst ys] => Q ((xs.zip ys).map fun p => .tup [p.1, p.2]) ρ1 m1
  | _ => False
theorem new_tup {K : PySem.W.Frag} {z : Z0 R} {ρ : List En} {m : R.M} {σ : L2.St} {H F : Hp} {T : Addr} {vs : List V} {ds : List D} (I : Rel K R z ρ m σ H F) (hT : H T = none) (r : DrAll K F vs ds) :
    ∃ F'', Rel K R z ρ m σ (upd H T (.tup vs)) F'' ∧ Mv R ρ m σ H F ρ m σ (upd H T (.tup vs)) F'' ∧ Dr K F'' (.ref T) (.tup ds) := by
  obtain ⟨J2, s⟩ := (I.alloc (o := .tup vs) hT).freeze (I.loose_new hT) upd_same
  exact ⟨_, J2, (Mv.alloc hT).freeze hT (I.sub.free hT), .tup (SqT.of upd_same) (r.up s)⟩
theorem di_zip {p tpos : Pos} {elts : List Expr} {kk : Nat} (hg : Gl X "zip") (hm : X.mg "zip" = none) (ha : DA X W R [a, b] tl)
    (hs : starEach [a, b] X.env = (false, eval a X.env) :: starEach [b] X.env := by rfl) (hpl : (backTo pos (starEach [b] X.env)).any (·.1) = false := by rfl) : DI X W R (.Tuple elts kk tpos) (.Call (.Name "zip" p) [a, b] [] pos) (iZipD tl) := by
  obtain ⟨_, p1, s1⟩ := ha
  refine ⟨_, pi_zip hg hm p1 hs hpl, fun z Z ρ m σ H F Q Rh hz I h q => ?_⟩
  refine s1 z Z ρ m σ H F _ _ hz I h fun vs H1 F1 ρ1 m1 ds I1 f1 r1 _ h1 => ?_
  split at h1
  · rename_i xs ys
    obtain ⟨v, v', rfl, r, r'⟩ := r1.two
    obtain ⟨a, us, rfl, hl, ra⟩ := r.lst
    obtain ⟨b, ws, rfl, hb, rb⟩ := r'.lst
    refine ⟨a, b, us, ws, rfl, I1.sub.seq hl, I1.sub.seq hb, q _ H1 F1 ρ1 m1 _ I1 f1 ⟨fun i ρ m σ H F' I s hi => ?_, fun i ρ m σ H F' x H' d I s hd y => ?_, fun i ρ m σ H F' I s hi => ?_⟩ h1⟩
    · have hi' : i < xs.length ∧ i < ys.length := by
        have := hi
        simp only [List.length_map, List.length_zip] at this
        omega
      have e1 : i < us.length := by rw [ra.length]; exact hi'.1
      have e2 : i < ws.length := by rw [rb.length]; exact hi'.2
      exact ⟨us, ws, us[i], ws[i], I.sub.seq (s.seq hl), I.sub.seq (s.seq hb), List.getElem?_eq_getElem e1, List.getElem?_eq_getElem e2⟩
    · obtain ⟨T, x1, y1, rfl, hT, rfl, g1, g2⟩ := y
      have k1 := g1 us (I.sub.seq (s.seq hl))
      have k2 := g2 ws (I.sub.seq (s.seq hb))
      obtain ⟨d1, e1, q1⟩ := ra.getV k1
      obtain ⟨d2, e2, q2⟩ := rb.getV k2
      have ez : (xs.zip ys)[i]? = some (d1, d2) := List.getElem?_zip_eq_some.mpr ⟨e1, e2⟩
      rw [List.getElem?_map, ez] at hd
      cases hd
      exact new_tup I hT (.cons (q1.up s) (.cons (q2.up s) .nil))
    · have hi' : xs.length ≤ i ∨ ys.length ≤ i := by
        have := hi
        simp only [List.length_map, List.length_zip] at this
        omega
      exact ⟨us, ws, I.sub.seq (s.seq hl), I.sub.seq (s.seq hb), by rw [ra.length, rb.length]; exact hi'⟩
  · exact h1.elim
/-- (0, x), (1, y), .. -/
def iEnumD (t : TL R) : TL R := fun Z ρ m Q => t Z ρ m fun ds ρ1 m1 => match ds with
  | [.lst xs] => Q (xs.zipIdx.map fun p => .tup [.int (p.2 : Nat), p.1]) ρ1 m1
  | _ => False
theorem di_enum {p tpos : Pos} {elts : List Expr} {kk : Nat} (hg : Gl X "enumerate") (hm : X.mg "enumerate" = none) (ha : DA X W R [a] tl) (hs : starEach [a] X.env = [(false, eval a X.env)] := by rfl) :
    DI X W R (.Tuple elts kk tpos) (.Call (.Name "enumerate" p) [a] [] pos) (iEnumD tl) := by
  obtain ⟨_, p1, s1⟩ := ha
  refine ⟨_, pi_enum hg hm p1 hs, fun z Z ρ m σ H F Q Rh hz I h q => ?_⟩
  refine s1 z Z ρ m σ H F _ _ hz I h fun vs H1 F1 ρ1 m1 ds I1 f1 r1 _ h1 => ?_
  split at h1
  · rename_i xs
    obtain ⟨v, rfl, r⟩ := r1.one
    obtain ⟨a, us, rfl, hl, ra⟩ := r.lst
    refine ⟨a, us, rfl, I1.sub.seq hl, q _ H1 F1 ρ1 m1 _ I1 f1 ⟨fun i ρ m σ H F' I s hi => ?_, fun i ρ m σ H F' x H' d I s hd y => ?_, fun i ρ m σ H F' I s hi => ?_⟩ h1⟩
    · have hi' : i < xs.length := by simpa using hi
      have e1 : i < us.length := by rw [ra.length]; exact hi'
      exact ⟨us, us[i], I.sub.seq (s.seq hl), List.getElem?_eq_getElem e1⟩
    · obtain ⟨T, x1, rfl, hT, rfl, g1⟩ := y
      obtain ⟨d1, e1, q1⟩ := ra.getV (g1 us (I.sub.seq (s.seq hl)))
      have ez : xs.zipIdx[i]? = some (d1, i) := by simp [List.getElem?_zipIdx, e1]
      rw [List.getElem?_map, ez] at hd
      cases hd
      exact new_tup I hT (.cons (.int _) (.cons (q1.up s) .nil))
    · exact ⟨us, I.sub.seq (s.seq hl), by rw [ra.length]; simpa using hi⟩
  · exact h1.elim
/-- reversed(list) -/
def iRevD (t : TL R) : TL R := fun Z ρ m Q => t Z ρ m fun ds ρ1 m1 => match ds with
  | [.lst xs] => Q xs.reverse ρ1 m1
  | _ => False
theorem di_rev {p : Pos} (hg : Gl X "reversed") (hm : X.mg "reversed" = none) (ha : DA X W R [a] tl) (hs : starEach [a] X.env = [(false, eval a X.env)] := by rfl) : DI X W R tg (.Call (.Name "reversed" p) [a] [] pos) (iRevD tl) := by
  obtain ⟨_, p1, s1⟩ := ha
  refine ⟨_, pi_reversed hg hm p1 hs, fun z Z ρ m σ H F Q Rh hz I h q => ?_⟩
  refine s1 z Z ρ m σ H F _ _ hz I h fun vs H1 F1 ρ1 m1 ds I1 f1 r1 _ h1 => ?_
  split at h1
  · rename_i xs
    obtain ⟨v, rfl, r⟩ := r1.one
    obtain ⟨a, us, rfl, hl, ra⟩ := r.lst
    have hlen := ra.length
    refine ⟨a, us, rfl, I1.sub.seq hl, q _ H1 F1 ρ1 m1 _ I1 f1 ⟨fun i ρ m σ H F' I s hi => ?_, fun i ρ m σ H F' x H' d I s hd y => ?_, fun i ρ m σ H F' I s hi => ?_⟩ h1⟩
    · have hi' : i < us.length := by rw [hlen]; simpa using hi
      have e1 : us.length - 1 - i < us.length := by omega
      exact ⟨hi', us, us[us.length - 1 - i], I.sub.seq (s.seq hl), List.getElem?_eq_getElem e1⟩
    · obtain ⟨rfl, g1⟩ := y
      have hi : i < xs.length := by simpa using lt_of_get hd
      obtain ⟨d1, e1, q1⟩ := ra.getV (g1 us (I.sub.seq (s.seq hl)))
      rw [List.getElem?_reverse hi] at hd
      rw [hlen, hd] at e1
      cases e1
      exact ⟨F', I, Mv.refl, q1.up s⟩
    · show us.length ≤ i
      rw [hlen]
      simpa using hi
  · exact h1.elim

/-! ### targets -/
def tName (i : Nat) : TGd R := fun d ρ m Q => Q (ρ.set i (.dat d)) m
theorem dg_name {i : Nat} {x : Str} (hN : X.N.Nodup) (hi : X.N[i]? = some x) (hx : Loc X.env.scope x) (hf : X.fn x = true ∨ X.env.scope.names.lookup x = some .local := by first | exact .inl rfl | exact .inr rfl | assumption) : DG X R (.Name x pos) (tName i) [i] :=
  ⟨_, pg_name hN hi hx hf, fun z ρ m σ H F v d Q Qh I r h q => q _ m _ H F (I.setDat i r) (Mv.setDat i v d) ⟨List.length_set, fun j hj => List.getElem?_set_ne fun e => hj (by simp [e])⟩ h⟩
abbrev TGsd (R : Rs) := List D → List En → R.M → (List En → R.M → Prop) → Prop
def tsNil : TGsd R := fun ds ρ m Q => match ds with
  | [] => Q ρ m
  | _ => False
def tsCons (t : TGd R) (u : TGsd R) : TGsd R := fun ds ρ m Q => match ds with
  | d :: r => t d ρ m fun ρ1 m1 => u r ρ1 m1 Q
  | [] => False
variable (X R) in
structure DGs (ts : List Expr) (t : TGsd R) (ss : List Nat) : Prop where
  ex : ∃ g, PGs X ts g ∧ ∀ (z : Z0 R) (ρ : List En) (m : R.M) (σ : L2.St) (H F : Hp) (vs : List V) (ds : List D) (Q : List En → R.M → Prop) (Qh : L2.St → Hp → Prop), Rel X.K R z ρ m σ H F → DrAll X.K F vs ds → t ds ρ m Q →
    (∀ ρ' m' σ' H' F', Rel X.K R z ρ' m' σ' H' F' → Mv R ρ m σ H F ρ' m' σ' H' F' → (σ'.length = σ.length ∧ ∀ i, i ∉ ss → σ'[i]? = σ[i]?) → Q ρ' m' → Qh σ' H') → g vs σ H Qh
theorem dgs_nil : DGs X R [] tsNil [] := ⟨_, pgs_nil, fun z ρ m σ H F vs ds Q Qh I r h q => by
  cases r with
  | nil => exact ⟨rfl, q ρ m σ H F I Mv.refl ⟨rfl, fun _ _ => rfl⟩ h⟩
  | cons => exact h.elim⟩
theorem dgs_cons {t : TGd R} {u : TGsd R} {s1' s2' : List Nat} (h1 : DG X R e t s1') (h2 : DGs X R es u s2') (hs : (assignEach (e :: es) X.env).map (·.2) = assign e X.env :: (assignEach es X.env).map (·.2) := by rfl) : DGs X R (e :: es) (tsCons t u) (s1' ++ s2') := by
  obtain ⟨_, p1, s1⟩ := h1
  obtain ⟨_, p2, s2⟩ := h2
  refine ⟨_, pgs_cons p1 p2 hs, fun z ρ m σ H F vs ds Q Qh I r h q => ?_⟩
  cases r with
  | nil => exact h.elim
  | cons r1 r2 =>
    refine ⟨_, _, rfl, ?_⟩
    exact s1 z ρ m σ H F _ _ _ _ I r1 h fun ρ1 m1 σ1 H1 F1 I1 f1 k1 h1 => s2 z ρ1 m1 σ1 H1 F1 _ _ _ _ I1 (r2.up f1.same) h1 fun ρ2 m2 σ2 H2 F2 I2 f2 k2 h2 => q ρ2 m2 σ2 H2 F2 I2 (f1.trans f2) ⟨k2.1.trans k1.1, fun i hi => (k2.2 i fun x => hi (by simp [x])).trans (k1.2 i fun x => hi (by simp [x]))⟩ h2
def tTupD (n : Nat) (t : TGsd R) : TGd R := fun d ρ m Q => match d with
  | .tup xs => xs.length = n ∧ t xs ρ m Q
  | _ => False
theorem dg_tup {k n : Nat} {t : TGsd R} {ss : List Nat} (hc : X.calm = true) (h : DGs X R es t ss) (hn : (assignEach es X.env).length = n := by rfl) (hst : (assignEach es X.env).findIdx? (·.1) = none := by rfl) : DG X R (.Tuple es k pos) (tTupD n t) ss := by
  obtain ⟨_, p1, s1⟩ := h
  refine ⟨_, pg_tup hc p1 hn hst, fun z ρ m σ H F v d Q Qh I r h q => ?_⟩
  cases d <;> first | exact h.elim | skip
  rename_i ds
  cases r with
  | tup ht ra => exact ⟨_, _, rfl, Same.sqT I.sub ht, by rw [ra.length]; exact h.1, s1 z ρ m σ H F _ _ _ _ I ra h.2 q⟩
/-- target = value -/
def sAsg (t : TD R) (g : TGd R) : TSd R := fun D ρ m => t D.rz ρ m fun d ρ1 m1 => d.firm ∧ g d ρ1 m1 D.nx
theorem ds_asg {g : TGd R} {ss : List Nat} (he : DE X W R e te) (hg : DG X R tg g ss) (hs : swapsWithSole [tg] e pos.line X.env = pure false := by rfl) (hw : swappedStores [tg] e X.env = pure none := by rfl) (h1 : (assignEach [tg] X.env).map (·.2) = [assign tg X.env] := by rfl) : DS X W R (.Assign [tg] e pos) (sAsg te g) := by
  obtain ⟨_, p1, s1⟩ := he
  obtain ⟨_, p2, s2⟩ := hg
  refine ⟨_, ps_asg p1 p2 hs hw h1, fun z ρ m σ H F D Dh M I h => ?_⟩
  refine s1 z D.rz ρ m σ H F _ _ M.rz I h fun v H1 F1 ρ1 m1 d I1 f1 r1 h1 => ?_
  exact s2 z ρ1 m1 σ H1 F1 v d _ _ I1 (r1.dr h1.1) h1.2 fun ρ2 m2 σ2 H2 F2 I2 f2 _ h2 => M.nx ρ2 m2 σ2 H2 F2 I2 (f1.same.trans f2.same) h2

/-! ### changes in place of a name's own list -/
/-- x.append(e) -/
def eApp (i : Nat) (t : TD R) : TD R := fun Z ρ m Q => t Z ρ m fun d ρ1 m1 => d.firm ∧ match nth ρ1 i with
  | .own xs => xs.length < sizeLine ∧ Q .non (ρ1.set i (.own (xs ++ [d]))) m1
  | _ => False
theorem Rel.slotV {K : PySem.W.Frag} {z : Z0 R} {ρ : List En} {m : R.M} {σ : L2.St} {H F : Hp} (I : Rel K R z ρ m σ H F) {i : Nat} {ds : List D} (e : nth ρ i = .own ds) : ∃ a xs, σ[i]? = some (some (.ref a)) ∧ ρ[i]? = some (.own ds) ∧ H a = some (.lst xs) ∧ DrAll K F xs ds := by
  have e' := nth_get e (fun q => nomatch q)
  obtain ⟨a, xs, h1, h2, _, _, h5⟩ := I.own_at e'
  exact ⟨a, xs, h1, e', h2, h5⟩
/-- the name at slot i holds what it held when its own list is there at the end of the arguments -/
theorem Rel.slot_ref {K : PySem.W.Frag} {z : Z0 R} {ρ : List En} {m : R.M} {σ : L2.St} {H F : Hp} (I : Rel K R z ρ m σ H F) {i : Nat} {v : V} (h : σ[i]? = some (some v)) {ds : List D} (e : nth ρ i = .own ds) : ∃ a xs, v = .ref a ∧ H a = some (.lst xs) ∧ DrAll K F xs ds := by
  obtain ⟨a, xs, h1, _, h2, h3⟩ := I.slotV e
  rw [h] at h1
  cases h1
  exact ⟨a, xs, rfl, h2, h3⟩
/-- a method of a list at a name, by values: what is there ahead of the arguments is a list too -/
def eOwnM (i : Nat) (t : TL R) (f : List D → List D → (D → List D → Prop) → Prop) : TD R := fun Z ρ m Q => (∃ xs, nth ρ i = .own xs) ∧ t Z ρ m fun ds ρ1 m1 => Firms ds ∧ match nth ρ1 i with
  | .own xs => f xs ds fun d ys => Q d (ρ1.set i (.own ys)) m1
  | _ => False
theorem de_ownM {i : Nat} {o : Expr} {id : String} {name : Str} {apos : Pos} {r : V → List V → Hp → VK → Prop} {f : List D → List D → (D → List D → Prop) → Prop} (slot : Slot "list" name id) (hty : typeOf (.builtin id) = pure (.type "method_descriptor")) (hm : MtR X id r)
    (L : ∀ (F H : Hp) (a : Addr) (vs : List V) (xs : List V) (ds : List D) (es : List D) (Q : D → List D → Prop) (Qh : VK), H a = some (.lst xs) → DrAll X.K F xs ds → DrAll X.K F vs es → f ds es Q → (∀ v d ys gs, Dr X.K F v d → DrAll X.K F ys gs → Q d gs → Qh v (upd H a (.lst ys))) → r (.ref a) vs H Qh)
    (ho : PE X o (tVar i)) (ha : DA X W R (e :: es) tl) (hbase : attributeBase o name X.env (eval o X.env) = eval o X.env := by rfl)
    (hfew : ((backTo pos (starEach (e :: es) X.env)).all (fun x => !x.1) && (backToKw pos (keywordEach [] X.env)).all (fun x => x.1.isSome)
      && decide ((e :: es).length + ([] : List Keyword).length + (if ([] : List Keyword).isEmpty then 0 else 1) < 30)) = true := by rfl)
    (hline : (apos.endLine == pos.line) = true := by rfl) (hs : starEach (e :: es) X.env = (false, eval e X.env) :: starEach es X.env := by rfl) (hplain : (backTo pos (starEach es X.env)).any (·.1) = false := by rfl) :
    DE X W R (.Call (.Attribute o name apos) (e :: es) [] pos) (eOwnM i tl f) := by
  obtain ⟨_, p1, s1⟩ := ha
  refine ⟨_, pe_bm F.plainAttrs_list slot hty hm ho p1 hbase hfew hline hs hplain, fun z Z ρ m σ H F Q Qh hz I h q => ?_⟩
  obtain ⟨⟨xs0, e0⟩, h⟩ := h
  obtain ⟨a0, ys0, g1, _, g2, _⟩ := I.slotV e0
  refine ⟨_, g1, .inl ⟨rfl, _, SqL.of g2⟩, ?_⟩
  refine s1 z Z ρ m σ H F _ _ hz I h fun vs H1 F1 ρ1 m1 ds I1 f1 r1 _ h1 => ?_
  obtain ⟨fm, h1⟩ := h1
  cases e1 : nth ρ1 i <;> rw [e1] at h1 <;> first | exact h1.elim | skip
  rename_i xs
  obtain ⟨a, us, q1, q2, q3, q4⟩ := I1.slotV e1
  rw [g1] at q1
  cases q1
  refine L F1 H1 a0 vs us xs ds _ _ q3 q4 (r1.dr fm) h1 fun v d ys gs rd ra hq => ?_
  exact q v _ F1 _ m1 d (I1.change q2 g1 ra) (f1.trans (Mv.change q2 g1)) rd.dv hq
def fAppend : List D → List D → (D → List D → Prop) → Prop := fun xs es Q => match es with
  | [d] => xs.length < sizeLine ∧ Q .non (xs ++ [d])
  | _ => False
theorem de_append {i : Nat} {o : Expr} {apos : Pos} (ho : PE X o (tVar i)) (ha : DA X W R [e] tl) (hbase : attributeBase o "append" X.env (eval o X.env) = eval o X.env := by rfl)
    (hfew : ((backTo pos (starEach [e] X.env)).all (fun x => !x.1) && (backToKw pos (keywordEach [] X.env)).all (fun x => x.1.isSome) && decide ([e].length + ([] : List Keyword).length + (if ([] : List Keyword).isEmpty then 0 else 1) < 30)) = true := by rfl)
    (hline : (apos.endLine == pos.line) = true := by rfl) (hs : starEach [e] X.env = (false, eval e X.env) :: starEach [] X.env := by rfl) (hplain : (backTo pos (starEach [] X.env)).any (·.1) = false := by rfl) :
    DE X W R (.Call (.Attribute o "append" apos) [e] [] pos) (eOwnM i tl fAppend) :=
  de_ownM F.slot_list_append F.type_list_append mt_append (fun F H a vs xs ds es Q Qh hH r rs h0 q => by
    unfold fAppend at h0
    split at h0
    · cases rs with
      | cons rd rn =>
        cases rn
        exact ⟨a, xs, _, rfl, rfl, hH, by rw [r.length]; exact h0.1, q _ _ _ _ .non (r.append (.cons rd .nil)) h0.2⟩
    · exact h0.elim) ho ha hbase hfew hline hs hplain
/-- x[k] = e -/
def sPut (i : Nat) (tk t : TD R) : TSd R := fun D ρ m => t D.rz ρ m fun d ρ1 m1 => d.firm ∧ (∃ xs, nth ρ1 i = .own xs) ∧ tk D.rz ρ1 m1 fun k ρ2 m2 => match nth ρ2 i, k with
  | .own xs, .int k => ∃ j, ixN xs.length k = some j ∧ D.nx (ρ2.set i (.own (xs.set j d))) m2
  | _, _ => False
theorem ds_put {i : Nat} {o k : Expr} {spos : Pos} {tk : TD R} (ho : PE X o (tVar i)) (hk : DE X W R k tk) (he : DE X W R e te)
    (ha : ∀ {to ti : TE}, PE X o to → PE X k ti → PG X (.Subscript o k spos) (gSub to ti rSetL) := by exact fun h1 h2 => pg_sub h1 h2 set_list)
    (hs : swapsWithSole [.Subscript o k spos] e pos.line X.env = pure false := by rfl) (hw : swappedStores [.Subscript o k spos] e X.env = pure none := by rfl) (h1 : (assignEach [.Subscript o k spos] X.env).map (·.2) = [assign (.Subscript o k spos) X.env] := by rfl) : DS X W R (.Assign [.Subscript o k spos] e pos) (sPut i tk te) := by
  obtain ⟨_, p1, s1⟩ := he
  obtain ⟨_, p2, s2⟩ := hk
  refine ⟨_, ps_asg p1 (ha ho p2) hs hw h1, fun z ρ m σ H F D Dh M I h => ?_⟩
  refine s1 z D.rz ρ m σ H F _ _ M.rz I h fun v H1 F1 ρ1 m1 d I1 f1 r1 h1 => ?_
  obtain ⟨fm, ⟨xs0, e0⟩, h1⟩ := h1
  have rd := r1.dr fm
  obtain ⟨a0, ys0, g1, _, g2, _⟩ := I1.slotV e0
  refine ⟨_, g1, s2 z D.rz ρ1 m1 σ H1 F1 _ _ M.rz I1 h1 fun u H2 F2 ρ2 m2 d2 I2 f2 r2 h2 => ?_⟩
  cases e1 : nth ρ2 i <;> rw [e1] at h2 <;> first | exact h2.elim | skip
  rename_i xs
  cases d2 <;> first | exact h2.elim | skip
  rename_i kk
  obtain rfl := r2.int
  obtain ⟨j, hj, hn⟩ := h2
  obtain ⟨a, us, q1, q2, q3, q4⟩ := I2.slotV e1
  rw [g1] at q1
  cases q1
  exact ⟨a0, us, kk, j, rfl, rfl, q3, by rw [q4.length]; exact hj, M.nx _ m2 _ _ F2 (I2.change q2 g1 (q4.set (rd.up f2.same) j)) (f1.same.trans f2.same) hn⟩
end
end DL

/-! Data layer: comprehensions, calls of defs, a def's promise. -/
namespace DL
open PySem L2

/-! ### comprehensions -/
def wipeE (ρ : List En) : List Nat → List En
  | [] => ρ
  | v :: vs => (wipeE ρ vs).set v .un
section
variable {K : PySem.W.Frag} {R : Rs} {z : Z0 R} {ρ : List En} {m : R.M} {σ : L2.St} {H F : Hp}
theorem Rel.wipe (I : Rel K R z ρ m σ H F) : ∀ vs : List Nat, Rel K R z (wipeE ρ vs) m (L2.wipe σ vs) H F
  | [] => I
  | v :: vs => (Rel.wipe I vs).drop v none
/-- the slots of what isn't known may hold anything -/
theorem Rel.swap {σ' : L2.St} (I : Rel K R z ρ m σ H F) (hl : σ'.length = σ.length) (h : ∀ (i : Nat) (e : En), ρ[i]? = some e → e ≠ .un → σ'[i]? = σ[i]?) : Rel K R z ρ m σ' H F := by
  have nu : ∀ xs, En.own xs ≠ .un := fun _ q => nomatch q
  refine ⟨I.toHs, by rw [hl]; exact I.len, fun i e he => ?_, fun i j a xs ys e1 e2 e3 e4 => ?_, fun a i xs hv e q => ?_⟩
  · by_cases hu : e = .un
    · subst hu
      have hi : i < σ'.length := by rw [hl, I.len]; exact lt_of_get he
      exact ⟨σ'[i], List.getElem?_eq_getElem hi, trivial⟩
    · rw [h i e he hu]
      exact I.var i e he
  · rw [h i _ e1 (nu _)] at e3
    rw [h j _ e2 (nu _)] at e4
    exact I.apart i j a xs ys e1 e2 e3 e4
  · rw [h i _ e (nu _)] at q
    exact I.vO a i xs hv e q
/-- a list that stands aside is changed -/
theorem Rel.putAside (I : Rel K R z ρ m σ H F) {a : Addr} {o : HO} (fF : F a = none) (zH : z.H a = none) (n : Aside R ρ m σ a) : Rel K R z ρ m σ (upd H a o) F := by
  have k : ∀ b u, b ≠ a → H b = some u → upd H a o b = some u := fun b u ne q => by rw [upd_ne ne]; exact q
  refine ⟨⟨fun b u q => k b u (ne_of_none q fF) (I.sub b u q), R.ext I.res (Same.refl F) fun b u hv q => k b u (fun q2 => n.1 (q2 ▸ hv)) q, I.vF, fun b u q nv => ⟨k b u (ne_of_none q zH) (I.fr b u q nv).1, (I.fr b u q nv).2⟩, I.vz, fun b u q => ?_, I.fz⟩, I.len, fun j u he => ?_, I.apart, I.vO⟩
  · obtain ⟨o', q'⟩ := I.zH b u q
    exact ⟨o', k b o' (ne_of_none q zH) q'⟩
  · obtain ⟨v, q1, q2⟩ := I.var j u he
    refine ⟨v, q1, q2.up (Same.refl F) fun b xs' e0 ho e1 e2 _ => ⟨k b _ (fun q => ?_) e1, e2⟩⟩
    obtain ⟨zs, rfl⟩ := ho
    exact n.2 j zs he (by rw [q1, e0, q])
theorem wipeE_un : ∀ (vs : List Nat) (v : Nat) (e : En), v ∈ vs → (wipeE ρ vs)[v]? = some e → e = .un
  | u :: vs, v, e, hm, h => by
    by_cases hv : v = u
    · subst hv
      have hl : v < (wipeE ρ vs).length := by
        have := lt_of_get h
        rwa [show wipeE ρ (v :: vs) = (wipeE ρ vs).set v .un from rfl, List.length_set] at this
      rw [show wipeE ρ (v :: vs) = (wipeE ρ vs).set v .un from rfl, List.getElem?_set_self hl] at h
      cases h; rfl
    · rw [show wipeE ρ (u :: vs) = (wipeE ρ vs).set u .un from rfl, List.getElem?_set_ne (Ne.symm hv)] at h
      exact wipeE_un vs v e ((List.mem_cons.mp hm).resolve_left hv) h
theorem wipe_other : ∀ (vs : List Nat) (v : Nat), v ∉ vs → (L2.wipe σ vs)[v]? = σ[v]?
  | [], _, _ => rfl
  | u :: vs, v, hm => by
    rw [show L2.wipe σ (u :: vs) = (L2.wipe σ vs).set u none from rfl, List.getElem?_set_ne (fun q => hm (by simp [q]))]
    exact wipe_other vs v fun q => hm (List.mem_cons_of_mem _ q)
theorem wipe_in : ∀ (vs : List Nat) (v : Nat), v ∈ vs → v < σ.length → (L2.wipe σ vs)[v]? = some none
  | u :: vs, v, hm, hl => by
    by_cases hv : v = u
    · subst hv
      rw [show L2.wipe σ (v :: vs) = (L2.wipe σ vs).set v none from rfl, List.getElem?_set_self (by rw [wipe_length]; exact hl)]
    · rw [show L2.wipe σ (u :: vs) = (L2.wipe σ vs).set u none from rfl, List.getElem?_set_ne (Ne.symm hv)]
      exact wipe_in vs v ((List.mem_cons.mp hm).resolve_left hv) hl
theorem wipe_same {σ' : L2.St} {vs : List Nat} (hl : σ'.length = σ.length) (h : ∀ i, i ∉ vs → σ'[i]? = (L2.wipe σ vs)[i]?) : L2.wipe σ' vs = L2.wipe σ vs := by
  apply List.ext_getElem?
  intro i
  by_cases hi : i ∈ vs
  · by_cases hn : i < σ.length
    · rw [wipe_in vs i hi (by rw [hl]; exact hn), wipe_in vs i hi hn]
    · rw [List.getElem?_eq_none (by rw [wipe_length, hl]; omega), List.getElem?_eq_none (by rw [wipe_length]; omega)]
  · rw [wipe_other vs i hi, h i hi]
theorem Rel.unwipe {vs : List Nat} (I : Rel K R z (wipeE ρ vs) m (L2.wipe σ vs) H F) : Rel K R z (wipeE ρ vs) m σ H F :=
  I.swap (wipe_length σ vs).symm fun i e he hu => (wipe_other vs i fun hm => hu (wipeE_un vs i e hm he)).symm
theorem Aside.wipe {a : Addr} (n : Aside R ρ m σ a) (vs : List Nat) : Aside R (wipeE ρ vs) m (L2.wipe σ vs) a := by
  induction vs with
  | nil => exact n
  | cons v vs ih =>
    exact ih.sub fun j xs e1 q1 => by
      obtain ⟨nj, e2⟩ := set_own_old (e := .un) (fun _ q => nomatch q) e1
      rw [show L2.wipe σ (v :: vs) = (L2.wipe σ vs).set v none from rfl, List.getElem?_set_ne (Ne.symm nj)] at q1
      exact ⟨xs, e2, q1⟩
theorem Aside.unwipe {a : Addr} {vs : List Nat} (n : Aside R (wipeE ρ vs) m (L2.wipe σ vs) a) : Aside R (wipeE ρ vs) m σ a :=
  n.sub fun j xs e1 q1 => ⟨xs, e1, by
    rw [wipe_other vs j fun hm => by have := wipeE_un vs j _ hm e1; cases this]
    exact q1⟩
end
section
variable {X : Cx} {W : WX} {R : Rs} {e tg : Expr} {es ifs : List Expr} {pos : Pos} {te : TD R} {tl : TL R} {tc : TB R} {g : TGd R} {ss : List Nat}
variable (X W R) in
structure DTs (cs : List Expr) (t : TB R) : Prop where
  ex : ∃ tt, PTs X cs tt ∧ ST X.K W R tt t
def bYes : TB R := fun _ ρ m Q => Q true ρ m
theorem dts_nil : DTs X W R [] bYes := ⟨_, pts_nil, fun z Z ρ m σ H F Q Qh hz I h q => q true H F ρ m I Mv.refl h⟩
theorem dts_one (h : DT X W R e tc) : DTs X W R [e] tc := by
  obtain ⟨_, p, s⟩ := h
  exact ⟨_, pts_one p, s⟩
abbrev W0 : WX := fun _ _ _ _ => False
abbrev zF {R : Rs} : ZC R := fun _ _ _ => False
theorem zok0 {K : PySem.W.Frag} {z : Z0 R} {W : WX} : Zok K R z W zF := fun _ _ _ _ _ _ _ _ _ _ h => h.elim
/-- the turns that are left, what is made so far -/
def lcD (g : TGd R) (t : TB R) (e : TD R) (vs : List Nat) (Q : KL R) : List D → List D → List En → R.M → Prop
  | [], acc => fun ρ m => Q acc ρ m
  | d :: ds, acc => fun ρ m => g d ρ m fun ρ2 m2 => t zF ρ2 m2 fun b ρ3 m3 =>
    (b = true → e zF ρ3 m3 fun y ρ4 m4 => y.firm ∧ acc.length < sizeLine ∧ lcD g t e vs Q ds (acc ++ [y]) (wipeE ρ4 vs) m4) ∧ (b = false → lcD g t e vs Q ds acc (wipeE ρ3 vs) m3)
def eLc (i : TL R) (g : TGd R) (t : TB R) (e : TD R) (vs : List Nat) : TL R := fun Z ρ m Q => i Z ρ m fun ds ρ1 m1 => lcD g t e vs Q ds [] (wipeE ρ1 vs) m1
/-- within a comprehension nothing is raised -/
theorem so_lc {wi : TI} {gh : TG} {tt : TT} {t1 : TE} {vs : List Nat} (s0 : SI X.K W R wi tl) (s1 : SG X.K R gh g ss) (hss : ∀ i ∈ ss, i ∈ vs) (s2 : ST X.K W0 R tt tc) (s3 : SE X.K W0 R t1 te) : SO X.K W R (tLc wi gh tt t1 vs) (eLc tl g tc te vs) := fun z Z ρ m σ H F Q Qh hz I h q => by
  refine s0 z Z ρ m σ H F _ _ hz I h fun J H1 F1 ρ1 m1 ds I1 f1 w h1 => ?_
  intro C hC
  have I1w := (I1.wipe vs).unwipe
  refine ⟨fun i n H' => ∃ ρ' m' F' acc xs, Rel X.K R z (wipeE ρ' vs) m' σ H' F' ∧ Mv R ρ m σ H F (wipeE ρ' vs) m' σ H' F' ∧ Same F1 F' ∧ Aside R (wipeE ρ' vs) m' σ C ∧ F' C = none ∧ H' C = some (.lst xs) ∧ DrAll X.K F' xs acc ∧ n = ds.length - i ∧ i ≤ ds.length ∧ lcD g tc te vs Q (ds.drop i) acc (wipeE ρ' vs) m', ?_, ?_⟩
  · refine ⟨ds.length, ρ1, m1, F1, [], [], I1w.alloc hC, ?_, Same.refl F1, ?_, I1.sub.free hC, upd_same, .nil, rfl, Nat.zero_le _, h1⟩
    · exact f1.trans ⟨Same.refl F1, fun b o e => ⟨o, by rw [upd_ne (ne_of_none e hC)]; exact e⟩, fun b o e n => ⟨by rw [upd_ne (ne_of_none e hC)]; exact e, rfl, (n.wipe vs).unwipe⟩⟩
    · have L := I1w.loose_new (o := .lst []) hC
      exact ⟨L.vol, L.own⟩
  · rintro i n H' ⟨ρ', m', F', acc, xs, I', mv, fs, nC, fC, eC, rC, rfl, hi, h⟩
    by_cases hlt : i < ds.length
    · refine .inr ⟨w.go i _ m' σ H' F' I' fs hlt, fun H' => ∃ ρ' m' F' acc xs, Rel X.K R z (wipeE ρ' vs) m' σ H' F' ∧ Mv R ρ m σ H F (wipeE ρ' vs) m' σ H' F' ∧ Same F1 F' ∧ Aside R (wipeE ρ' vs) m' σ C ∧ F' C = none ∧ H' C = some (.lst xs) ∧ DrAll X.K F' xs acc ∧ lcD g tc te vs Q (ds.drop (i + 1)) acc (wipeE ρ' vs) m', fun H' ⟨ρ', m', F', acc, xs, a, b, c, d, e, f, k, l⟩ => ⟨ds.length - (i + 1), by omega, ρ', m', F', acc, xs, a, b, c, d, e, f, k, rfl, hlt, l⟩, fun x H2 y => ?_⟩
      rw [List.drop_eq_getElem_cons hlt] at h
      obtain ⟨F2, I2, mv2, r2⟩ := w.yld i _ m' σ H' F' x H2 ds[i] I' fs (List.getElem?_eq_getElem hlt) y
      obtain ⟨eC2, fC2, nC2⟩ := mv2.kp C _ eC nC
      -- the block's slots
      have I2w : Rel X.K R z (wipeE ρ' vs) m' (L2.wipe σ vs) H2 F2 := by
        have := I2.wipe vs
        refine Rel.swap I2 (wipe_length σ vs) fun j e he hu => wipe_other vs j fun hm => hu (wipeE_un vs j e hm he)
      have nC2w : Aside R (wipeE ρ' vs) m' (L2.wipe σ vs) C := nC2.sub fun j ys e1 q1 => ⟨ys, e1, by
        rw [wipe_other vs j fun hm => by have := wipeE_un vs j _ hm e1; cases this] at q1
        exact q1⟩
      refine s1 z _ m' (L2.wipe σ vs) H2 F2 x ds[i] _ _ I2w r2 h fun ρ3 m3 σ3 H3 F3 I3 mv3 k3 h3 => ?_
      obtain ⟨eC3, fC3, nC3⟩ := mv3.kp C _ eC2 nC2w
      have w3 : L2.wipe σ3 vs = L2.wipe σ vs := wipe_same (k3.1.trans (wipe_length σ vs)) fun j hj => k3.2 j fun q => hj (hss j q)
      refine ⟨w3, ?_⟩
      have mvb : Mv R (wipeE ρ' vs) m' σ H' F' (wipeE ρ' vs) m' (L2.wipe σ vs) H2 F2 := ⟨mv2.same, mv2.live, fun b o e n => by
        obtain ⟨e', f', n'⟩ := mv2.kp b o e n
        exact ⟨e', f', n'.sub fun j ys e1 q1 => ⟨ys, e1, by
          rw [wipe_other vs j fun hm => by have := wipeE_un vs j _ hm e1; cases this] at q1
          exact q1⟩⟩⟩
      have mvA := (mv.trans mvb).trans mv3
      have back : ∀ {ρ5 : List En} {m5 : R.M} {H5 F5 : Hp}, Rel X.K R z ρ5 m5 σ3 H5 F5 → Rel X.K R z (wipeE ρ5 vs) m5 σ H5 F5 := fun I5 => by
        have q := I5.wipe vs
        rw [w3] at q
        exact q.unwipe
      have backN : ∀ {ρ5 : List En} {m5 : R.M} {b : Addr}, Aside R ρ5 m5 σ3 b → Aside R (wipeE ρ5 vs) m5 σ b := fun n5 => by
        have q := n5.wipe vs
        rw [w3] at q
        exact q.unwipe
      have backM : ∀ {ρ5 : List En} {m5 : R.M} {H5 F5 : Hp}, Mv R ρ m σ H F ρ5 m5 σ3 H5 F5 → Mv R ρ m σ H F (wipeE ρ5 vs) m5 σ H5 F5 := fun q => ⟨q.same, q.live, fun b o e n => by
        obtain ⟨e', f', n'⟩ := q.kp b o e n
        exact ⟨e', f', backN n'⟩⟩
      have fs3 : Same F1 F3 := (fs.trans mv2.same).trans mv3.same
      refine s2 z zF ρ3 m3 σ3 H3 F3 _ _ zok0 I3 h3 fun b H4 F4 ρ4 m4 I4 mv4 h4 => ?_
      obtain ⟨eC4, fC4, nC4⟩ := mv4.kp C _ eC3 nC3
      cases b with
      | false =>
        refine iteF ⟨ρ4, m4, F4, acc, xs, back I4, backM (mvA.trans mv4), fs3.trans mv4.same, backN nC4, ?_, eC4, ?_, h4.2 rfl⟩
        · rw [fC4, fC3, fC2]; exact fC
        · exact ((rC.up mv2.same).up mv3.same).up mv4.same
      | true =>
        refine iteT ?_
        refine s3 z zF ρ4 m4 σ3 H4 F4 _ _ zok0 I4 (h4.1 rfl) fun v H5 F5 ρ5 m5 y I5 mv5 r5 h5 => ?_
        obtain ⟨eC5, fC5, nC5⟩ := mv5.kp C _ eC4 nC4
        have fC' : F5 C = none := by rw [fC5, fC4, fC3, fC2]; exact fC
        have zC : z.H C = none := (I.newH (f1.free hC)).2.1
        have rC5 : DrAll X.K F5 xs acc := (((rC.up mv2.same).up mv3.same).up mv4.same).up mv5.same
        refine ⟨xs, eC5, by rw [rC.length]; exact h5.2.1, ρ5, m5, F5, acc ++ [y], xs ++ [v], ?_, ?_, (fs3.trans mv4.same).trans mv5.same, backN nC5, fC', upd_same, rC5.append (.cons (r5.dr h5.1) .nil), h5.2.2⟩
        · exact (back I5).putAside fC' zC (backN nC5)
        · have q := backM ((mvA.trans mv4).trans mv5)
          exact ⟨q.same, fun b o e => by
            by_cases hb : b = C
            · exact ⟨_, by rw [hb]; exact upd_same⟩
            · obtain ⟨o', e'⟩ := q.live b o e
              exact ⟨o', by rw [upd_ne hb]; exact e'⟩, fun b o e n => by
            obtain ⟨e', f', n'⟩ := q.kp b o e n
            exact ⟨by rw [upd_ne (ne_of_none e (f1.free hC))]; exact e', f', n'⟩⟩
    · have e : i = ds.length := by omega
      subst e
      rw [List.drop_length] at h
      exact .inl ⟨w.stop _ _ m' σ H' F' I' fs (Nat.le_refl _), q C xs acc H' F' _ m' I' mv (f1.free hC) ⟨fC, (I.newH (f1.free hC)).2.1, nC.1, nC.2⟩ eC rC h⟩
theorem PE.imp {t t' : TE} (p : PE X e t) (h : ∀ σ H Q, t' σ H Q → t σ H Q) : PE X e t' := ⟨fun pins s σ H Q I q => p.run pins s σ H Q I (h σ H Q q)⟩
theorem PTs.imp {t t' : TT} (p : PTs X es t) (h : ∀ σ H Q, t' σ H Q → t σ H Q) : PTs X es t' := ⟨fun pins s σ H Q I q => p.run pins s σ H Q I (h σ H Q q)⟩
theorem PG.imp {t t' : TG} (p : PG X e t) (h : ∀ v σ H Q, t' v σ H Q → t v σ H Q) : PG X e t' := ⟨fun pins s σ H v u Q I r q => p.run pins s σ H v u Q I r (h v σ H Q q)⟩
/-- one reading for every state of a comprehension's block -/
theorem DE.all {ι : Type} {Y : ι → Cx} {K : PySem.W.Frag} (hK : ∀ i, (Y i).K = K) (h : ∀ i, DE (Y i) W R e te) : ∃ t1, (∀ i, PE (Y i) e t1) ∧ SE K W R t1 te := by
  have h' : ∀ i, ∃ t2, PE (Y i) e t2 ∧ SE K W R t2 te := fun i => by
    obtain ⟨t2, a, b⟩ := (h i).ex
    rw [hK i] at b
    exact ⟨t2, a, b⟩
  refine ⟨fun σ H Q => ∀ i, Classical.choose (h' i) σ H Q, fun i => PE.imp (Classical.choose_spec (h' i)).1 fun σ H Q q => q i, fun z Z ρ m σ H F Q Qh hz I h0 q i => ?_⟩
  have s := (Classical.choose_spec (h' i)).2
  exact s z Z ρ m σ H F Q Qh hz I h0 q
theorem DTs.all {ι : Type} {Y : ι → Cx} {K : PySem.W.Frag} (hK : ∀ i, (Y i).K = K) (h : ∀ i, DTs (Y i) W R es tc) : ∃ t1, (∀ i, PTs (Y i) es t1) ∧ ST K W R t1 tc := by
  have h' : ∀ i, ∃ t2, PTs (Y i) es t2 ∧ ST K W R t2 tc := fun i => by
    obtain ⟨t2, a, b⟩ := (h i).ex
    rw [hK i] at b
    exact ⟨t2, a, b⟩
  refine ⟨fun σ H Q => ∀ i, Classical.choose (h' i) σ H Q, fun i => PTs.imp (Classical.choose_spec (h' i)).1 fun σ H Q q => q i, fun z Z ρ m σ H F Q Qh hz I h0 q i => ?_⟩
  have s := (Classical.choose_spec (h' i)).2
  exact s z Z ρ m σ H F Q Qh hz I h0 q
theorem DG.all {ι : Type} {Y : ι → Cx} {K : PySem.W.Frag} (hK : ∀ i, (Y i).K = K) (h : ∀ i, DG (Y i) R e g ss) : ∃ t1, (∀ i, PG (Y i) e t1) ∧ SG K R t1 g ss := by
  have h' : ∀ i, ∃ t2, PG (Y i) e t2 ∧ SG K R t2 g ss := fun i => by
    obtain ⟨t2, a, b⟩ := (h i).ex
    rw [hK i] at b
    exact ⟨t2, a, b⟩
  refine ⟨fun v σ H Q => ∀ i, Classical.choose (h' i) v σ H Q, fun i => PG.imp (Classical.choose_spec (h' i)).1 fun v σ H Q q => q i, fun z ρ m σ H F v d Q Qh I r h0 q i => ?_⟩
  have s := (Classical.choose_spec (h' i)).2
  exact s z ρ m σ H F v d Q Qh I r h0 q
/-- what a block's state hangs on -/
abbrev BI := Shared × Hp × Addr × List (Str × Addr) × List Addr
abbrev blkX (X : Cx) (scope : Scope) (i : BI) : Cx := X.blk i.1 i.2.1 scope (compEnvC scope i.2.2.2.1 i.2.2.1 X.env) i.2.2.2.2
theorem do_lc {elt iter : Expr} {scope : Scope} {own : List (Str × Nat)} (hc : X.calm = true) (hN : X.N.Nodup) (hi : DI X W R tg iter tl) (ok : BlkOk X.N X.env.scope scope own)
    (hg : ∀ i : BI, DG (blkX X scope i) R tg g ss) (ht : ∀ i : BI, DTs (blkX X scope i) W0 R ifs tc) (he : ∀ i : BI, DE (blkX X scope i) W0 R elt te) (hss : ∀ j ∈ ss, j ∈ own.map (·.2)) (hs : ∀ x, foldedSetIterable iter X.env x = pure x := by intro _; rfl) :
    DO X W R (.ListComp elt [⟨tg, iter, ifs, 0⟩] scope pos) (eLc tl g tc te (own.map (·.2))) := by
  obtain ⟨_, p0, s0⟩ := hi
  obtain ⟨_, p1, s1⟩ := DG.all (Y := blkX X scope) (K := X.K) (fun _ => rfl) hg
  obtain ⟨_, p2, s2⟩ := DTs.all (Y := blkX X scope) (K := X.K) (fun _ => rfl) ht
  obtain ⟨_, p3, s3⟩ := DE.all (Y := blkX X scope) (K := X.K) (fun _ => rfl) he
  exact ⟨_, pe_lc hc hN p0 ok (fun s H C cl fp => p1 (s, H, C, cl, fp)) (fun s H C cl fp => p2 (s, H, C, cl, fp)) (fun s H C cl fp => p3 (s, H, C, cl, fp)) hs, so_lc s0 s1 hss s2 s3⟩
/-- y = [..], y a local -/
theorem ds_setLc {i : Nat} {y : Str} {py spos : Pos} {elt iter : Expr} {scope : Scope} {own : List (Str × Nat)} (hc : X.calm = true) (hN : X.N.Nodup) (hy : X.N[i]? = some y) (hyl : X.env.scope.names.lookup y = some .local)
    (hsw : swapsWith (.ListComp elt [⟨tg, iter, ifs, 0⟩] scope pos) (some (.Name y py)) spos.line X.env = pure true) (hi : DI X W R tg iter tl) (ok : BlkOk X.N X.env.scope scope own)
    (hg : ∀ i : BI, DG (blkX X scope i) R tg g ss) (ht : ∀ i : BI, DTs (blkX X scope i) W0 R ifs tc) (he : ∀ i : BI, DE (blkX X scope i) W0 R elt te) (hss : ∀ j ∈ ss, j ∈ own.map (·.2)) (hs : ∀ x, foldedSetIterable iter X.env x = pure x := by intro _; rfl) :
    DS X W R (.Assign [.Name y py] (.ListComp elt [⟨tg, iter, ifs, 0⟩] scope pos) spos) (sOwn i (eLc tl g tc te (own.map (·.2)))) ∧ DS X W R (.Assign [.Name y py] (.ListComp elt [⟨tg, iter, ifs, 0⟩] scope pos) spos) (sSet i (eFz (eLc tl g tc te (own.map (·.2))))) := by
  obtain ⟨_, p0, s0⟩ := hi
  obtain ⟨_, p1, s1⟩ := DG.all (Y := blkX X scope) (K := X.K) (fun _ => rfl) hg
  obtain ⟨_, p2, s2⟩ := DTs.all (Y := blkX X scope) (K := X.K) (fun _ => rfl) ht
  obtain ⟨_, p3, s3⟩ := DE.all (Y := blkX X scope) (K := X.K) (fun _ => rfl) he
  have p := ps_setLc hc hN hy hyl hsw p0 ok (fun s H C cl fp => p1 (s, H, C, cl, fp)) (fun s H C cl fp => p2 (s, H, C, cl, fp)) (fun s H C cl fp => p3 (s, H, C, cl, fp)) hs
  have s := so_lc (vs := own.map (·.2)) s0 s1 hss s2 s3
  refine ⟨⟨_, p, fun z ρ m σ H F D Dh M I h => ?_⟩, ⟨_, p, fun z ρ m σ H F D Dh M I h => ?_⟩⟩
  · exact s z D.rz ρ m σ H F _ _ M.rz I h fun a xs ds H1 F1 ρ1 m1 I1 f1 _ L hH r1 h1 => M.nx _ m1 _ H1 F1 (I1.setOwn i L hH r1) f1.same h1
  · refine s z D.rz ρ m σ H F _ _ M.rz I h fun a xs ds H1 F1 ρ1 m1 I1 f1 hn L hH r1 h1 => ?_
    obtain ⟨J, e⟩ := I1.freeze L hH
    exact M.nx _ m1 _ H1 _ (J.setDat i (.lst (SqL.of upd_same) (r1.up e))) (f1.freeze hn L.fF).same h1.2
theorem ds_lcOwn {i : Nat} {y : Str} {py spos : Pos} {elt iter : Expr} {scope : Scope} {own : List (Str × Nat)} (hc : X.calm = true) (hN : X.N.Nodup) (hy : X.N[i]? = some y) (hyl : X.env.scope.names.lookup y = some .local)
    (hsw : swapsWith (.ListComp elt [⟨tg, iter, ifs, 0⟩] scope pos) (some (.Name y py)) spos.line X.env = pure true) (hi : DI X W R tg iter tl) (ok : BlkOk X.N X.env.scope scope own)
    (hg : ∀ i : BI, DG (blkX X scope i) R tg g ss) (ht : ∀ i : BI, DTs (blkX X scope i) W0 R ifs tc) (he : ∀ i : BI, DE (blkX X scope i) W0 R elt te) (hss : ∀ j ∈ ss, j ∈ own.map (·.2)) (hs : ∀ x, foldedSetIterable iter X.env x = pure x := by intro _; rfl) :
    DS X W R (.Assign [.Name y py] (.ListComp elt [⟨tg, iter, ifs, 0⟩] scope pos) spos) (sOwn i (eLc tl g tc te (own.map (·.2)))) :=
  (ds_setLc hc hN hy hyl hsw hi ok hg ht he hss hs).1
theorem ds_lcDat {i : Nat} {y : Str} {py spos : Pos} {elt iter : Expr} {scope : Scope} {own : List (Str × Nat)} (hc : X.calm = true) (hN : X.N.Nodup) (hy : X.N[i]? = some y) (hyl : X.env.scope.names.lookup y = some .local)
    (hsw : swapsWith (.ListComp elt [⟨tg, iter, ifs, 0⟩] scope pos) (some (.Name y py)) spos.line X.env = pure true) (hi : DI X W R tg iter tl) (ok : BlkOk X.N X.env.scope scope own)
    (hg : ∀ i : BI, DG (blkX X scope i) R tg g ss) (ht : ∀ i : BI, DTs (blkX X scope i) W0 R ifs tc) (he : ∀ i : BI, DE (blkX X scope i) W0 R elt te) (hss : ∀ j ∈ ss, j ∈ own.map (·.2)) (hs : ∀ x, foldedSetIterable iter X.env x = pure x := by intro _; rfl) :
    DS X W R (.Assign [.Name y py] (.ListComp elt [⟨tg, iter, ifs, 0⟩] scope pos) spos) (sSet i (eFz (eLc tl g tc te (own.map (·.2))))) :=
  (ds_setLc hc hN hy hyl hsw hi ok hg ht he hss hs).2
end
end DL

/-! Data layer: calls of defs, a def's promise. -/
namespace DL
open PySem L2

/-- a def's promise on data: its arguments, the resource, what is wanted of what it hands back, of what it raises -/
abbrev SpD (R : Rs) := List D → R.M → (D → R.M → Prop) → (Xd → R.M → Prop) → Prop
/-- a heap's part of a state is at its entry -/
structure Hs0 (K : PySem.W.Frag) (R : Rs) (m : R.M) (H F : Hp) : Prop where
  sub : Same F H
  res : R.ok K F m H
  vF : ∀ a, R.vol m a → F a = none
def spOf (K : PySem.W.Frag) (R : Rs) (n : Nat) (sp : SpD R) : Sp := fun vs H Q E => ∃ (F : Hp) (m : R.M) (ds : List D) (Qd : D → R.M → Prop) (Zd : Xd → R.M → Prop), vs.length = n ∧ Hs0 K R m H F ∧ DrAll K F vs ds ∧ sp ds m Qd Zd ∧
  (∀ v H' F' m' d, Hs K R ⟨F, H, m⟩ m' H' F' → Dr K F' v d → Qd d m' → Q v H') ∧ (∀ x H' F' m' cls d, Hs K R ⟨F, H, m⟩ m' H' F' → XdOk K F' H' x cls d → Zd x m' → E cls d H')
/-- as FnOk, where no guard is up around the call -/
structure FnG (P : Program) (w : World) (K : PySem.W.Frag) (mg : Str → Option Value) (base : Heap) (k : Nat) (f : Addr) (fd : FuncData) (ps : List Str) (sp : Sp) : Prop where
  len : ∀ vs H Q E, sp vs H Q E → vs.length = ps.length
  run : ∀ (A : Around) (outer : List Env) (s : Shared) (H : Hp) (args : Args) (us : List Value) (vs : List V) (Q : VK) (E : XK), Room k A → A.guards = some [] → Env0 P w K mg base A outer s H →
    BindsTo s fd args (ps.zip us) → Vals vs us → sp vs H Q E → codeAny (model P w) A (.call (.ref f) args) (CR (L2.CX P w) outer P w H s Q E) s
section
variable {P : Program} {w : World} {K : PySem.W.Frag} {mg : Str → Option Value} {base : Heap} {k : Nat} {f : Addr} {fd : FuncData} {ps : List Str} {sp sp' : Sp}
theorem FnG.mono {j : Nat} (F : FnG P w K mg base j f fd ps sp) (h : j ≤ k) : FnG P w K mg base k f fd ps sp :=
  ⟨F.len, fun A outer s H args us vs Q E hr hg => F.run A outer s H args us vs Q E (hr.mono h) hg⟩
theorem FnG.imp (F : FnG P w K mg base k f fd ps sp) (h : ∀ vs H Q E, sp' vs H Q E → sp vs H Q E) : FnG P w K mg base k f fd ps sp' :=
  ⟨fun vs H Q E q => F.len vs H Q E (h _ _ _ _ q), fun A outer s H args us vs Q E hr hg e0 hb rv hs => F.run A outer s H args us vs Q E hr hg e0 hb rv (h _ _ _ _ hs)⟩
/-- a def's body gives its promise -/
theorem fnG_of {x qual : Str} {st : Stmt} {N : List Str} (F : Fun K x qual st f fd) (S : FnScope N ps (defScope st)) (len : ∀ vs H Q E, sp vs H Q E → vs.length = ps.length)
    (hbody : ∀ (cdv : Value) (A : Around) (outer : List Env) (s : Shared) (H : Hp) (vs : List V) (Q : VK) (E : XK), Room k (A.deeper (PyProof.Rows.envOfC qual (defScope st) s.heap.objs.size f cdv)) → A.guards = some [] → sp vs H Q E →
      ∃ t, PSs (cxOf (L2.CX P w) P w K mg base N qual (defScope st) f cdv A outer s H E) (defBody st) t ∧ t { nx := fun _ H' => Q .non H', rt := Q } (L2.start N vs) H) : FnG P w K mg base (k + 1) f fd ps sp := by
  obtain ⟨oc, od, kV, doc, pm, an, cdv, ct, osl, rfl, lk, hcd⟩ := F.ex
  constructor
  · exact len
  intro A outer s H args us vs Q E hr hg e0 hb rv hsp
  have kb : ∀ b o, base.get? b = some o → s.heap.get? b = some o := fun b o e => (e0.bs b o e).1
  have hin : K.In s.heap := e0.mod.kin.keeps kb
  have hno : s.heap.NoLimit := e0.mod.nolimit.keeps kb
  have hpar : ∀ y ∈ ps.zip us, (defScope st).names.lookup y.1 = some .local ∨ ((defScope st).names.lookup y.1 = some .cell ∧ ((PySem.cellsFrom (s.heap.objs.size + 1) (defScope st).names []).lookup y.1).isSome = true) := by
    rintro ⟨nm, vl⟩ hy
    cases S.par nm (List.of_mem_zip hy).1 with
    | inl q => exact Or.inl q
    | inr q => exact Or.inr ⟨q, PySem.W.cellsFrom_some _ _ _ (Or.inl q)⟩
  refine codeAny_call_function hr.depth (hin _ _ lk) rfl S.co S.gen rfl (PySem.W.codeRec_of hin hcd) (hb _ _ _ _ ?_)
  refine wpAny_newFunctionEnv_cells S.kind hpar fun env he s1 y => ?_
  subst he
  refine ⟨hno.keeps y.toInCall.keep, codeAny_func ?_⟩
  obtain ⟨t, ht, hq⟩ := hbody cdv A outer s H vs Q E (hr.deeper _) hg hsp
  have I0 := inv_start (CX := L2.CX P w) (E := E) S hr.hd e0 (len _ _ _ _ hsp) rv y
  refine wpAny_mono (ht.run [] s1 (L2.start N vs) H _ I0 hq) ?_ fun _ _ z => z
  intro fl s' hs
  cases fl with
  | next =>
    obtain ⟨σ', H', J, q⟩ := hs
    exact ⟨V.non, H', J.os, J.bare, J.base, J.hok, rfl, q⟩
  | brk => exact (hs.elim fun _ z => z.elim fun _ z => z.2).elim
  | cont => exact (hs.elim fun _ z => z.elim fun _ z => z.2).elim
  | ret u =>
    obtain ⟨v, σ', H', J, ru, q⟩ := hs
    exact ⟨v, H', J.os, J.bare, J.base, J.hok, ru, q⟩
end
section
variable {X : Cx} {k : Nat} {f : Addr} {fd : FuncData} {ps : List Str} {sp : Sp} {E : L2.St → XK}
theorem run_fnG {pins : List (Addr × Obj)} {σ : L2.St} {H : Hp} {s : Shared} {Q : VK} {us : List Value} {vs : List V} (F : FnG X.prog X.w X.K X.mg X.base k f fd ps sp) (hr : Room k X.A) (hg : X.A.guards = some []) (hb : Binds X.K fd ps [])
    (hx : PassesAt (L2.CX X.prog X.w) X σ (E σ)) (I : Inv X pins σ H s) (r : Vals vs us) (h : sp vs H Q (E σ)) : wpAny (model X.prog X.w) X.A (call (.ref f) us) (EP X pins σ Q) X.xe s := by
  have n : us.length = ps.length := r.length.symm.trans (F.len _ _ _ _ h)
  have bd := hb s us I.kIn ((congrArg List.length (List.append_nil us)).trans n)
  simp only [List.append_nil] at bd
  refine wpAny_call (codeAny_mono (F.run X.A X.stack s H ⟨us, []⟩ us vs Q (E σ) hr hg I.env0 bd r h) ?_)
  intro res s' hq
  match res, hq with
  | .error e, hq => exact hx pins H s e s' I hq
  | .ok (.ret u), hq => exact I.after hq
  | .ok .next, hq => exact hq.elim
  | .ok .brk, hq => exact hq.elim
  | .ok .cont, hq => exact hq.elim
theorem pe_callG {x : Str} {e : Expr} {es : List Expr} {p pos : Pos} {t : TA} (F : FnG X.prog X.w X.K X.mg X.base k f fd ps sp) (hr : Room k X.A) (hG : X.A.guards = some []) (hg : Gl X x) (hm : X.mg x = some (.ref f)) (hk : PySem.W.keepIn X.K (.ref f) = true) (hb : Binds X.K fd ps [])
    (hx : ∀ σ, PassesAt (L2.CX X.prog X.w) X σ (E σ)) (ha : PA X (e :: es) t) (hdb : (x == ("__debug__" : Str)) = false := by decide) (he : starEach (e :: es) X.env = (false, eval e X.env) :: starEach es X.env := by rfl)
    (hpl : (backTo pos (starEach es X.env)).any (·.1) = false := by rfl) : PE X (.Call (.Name x p) (e :: es) [] pos) (tCallS sp E t) := by
  constructor
  intro pins s σ H Q I h
  refine wpAny_Call_Name_kw (ld_glob I hg hm (PySem.W.callWith_K (h₀ := X.base) I.ok.mod.kin hk (thn (ha.run pos pins s σ H _ I h) ?_) he hpl) hdb)
  rintro us s1 ⟨vs, H1, I1, r, q⟩
  exact ⟨I1.kIn, run_fnG F hr hG hb (hx σ) I1 r q⟩
end
structure DefOk (P : Program) (w : World) (K : PySem.W.Frag) (mg : Str → Option Value) (base : Heap) (R : Rs) (k : Nat) (x : Str) (ps : List Str) (sp : SpD R) : Prop where
  ex : ∃ f fd, mg x = some (.ref f) ∧ PySem.W.keepIn K (.ref f) = true ∧ Binds K fd ps [] ∧ FnG P w K mg base k f fd ps (spOf K R ps.length sp)
section
variable {P : Program} {w : World} {K : PySem.W.Frag} {mg : Str → Option Value} {base : Heap} {R : Rs} {k : Nat} {x : Str} {ps : List Str} {sp : SpD R}
theorem DefOk.imp {sp' : SpD R} (h : DefOk P w K mg base R k x ps sp) (i : ∀ ds m Q Z, sp' ds m Q Z → sp ds m Q Z) : DefOk P w K mg base R k x ps sp' := by
  obtain ⟨f, fd, a, b, c, F⟩ := h
  refine ⟨f, fd, a, b, c, F.imp fun vs H Q E q => ?_⟩
  obtain ⟨G, m, ds, Qd, Zd, h1, h2, h3, h4, h5⟩ := q
  exact ⟨G, m, ds, Qd, Zd, h1, h2, h3, i _ _ _ _ h4, h5⟩
theorem DefOk.mono {j : Nat} (h : DefOk P w K mg base R j x ps sp) (hj : j ≤ k) : DefOk P w K mg base R k x ps sp := by
  obtain ⟨f, fd, a, b, c, F⟩ := h
  exact ⟨f, fd, a, b, c, F.mono hj⟩
/-- a def that needs no resource, within any -/
abbrev liftSp (sp : SpD R0) : SpD R := fun ds m Q Z => sp ds () (fun d _ => Q d m) fun x _ => Z x m
theorem Hs.lift {m : R.M} {H F H' F' : Hp} (a : Hs0 K R m H F) (b : Hs K R0 ⟨F, H, ()⟩ () H' F') : Hs K R ⟨F, H, m⟩ m H' F' where
  sub := b.sub
  res := R.ext a.res b.fz fun c o _ e => (b.fr c o e fun q => q).1
  vF := fun c hc => by
    obtain ⟨o, e⟩ := R.live a.res hc
    rw [(b.fr c o e fun q => q).2]
    exact a.vF c hc
  fr := fun c o e _ => b.fr c o e fun q => q
  vz := fun c hc => .inl hc
  zH := b.zH
  fz := b.fz
theorem DefOk.lift {sp : SpD R0} (h : DefOk P w K mg base R0 k x ps sp) (R : Rs) : DefOk P w K mg base R k x ps (liftSp sp) := by
  obtain ⟨f, fd, a, b, c, F⟩ := h
  refine ⟨f, fd, a, b, c, F.imp fun vs H Q E q => ?_⟩
  obtain ⟨G, m, ds, Qd, Zd, h1, h2, h3, h4, h5, h6⟩ := q
  exact ⟨G, (), ds, fun d _ => Qd d m, fun x _ => Zd x m, h1, ⟨h2.sub, trivial, fun _ q => q.elim⟩, h3, h4, fun v H' F' m' d I r q => h5 v H' F' m d (I.lift h2) r q, fun x H' F' m' cls d I r q => h6 x H' F' m cls d (I.lift h2) r q⟩
end

theorem DvAll.length {K : PySem.W.Frag} {σ : L2.St} {F : Hp} : ∀ {vs : List V} {ds : List D}, DvAll K σ F vs ds → vs.length = ds.length
  | _, _, .nil => rfl
  | _, _, .cons _ t => by rw [List.length_cons, List.length_cons, DvAll.length t]
section
variable {X : Cx} {W : WX} {R : Rs} {e : Expr} {es : List Expr} {pos p : Pos} {tl : TL R} {k : Nat} {x : Str} {ps : List Str} {sp : SpD R}
theorem Rel.hs0 {K : PySem.W.Frag} {z : Z0 R} {ρ : List En} {m : R.M} {σ : L2.St} {H F : Hp} (I : Rel K R z ρ m σ H F) : Hs0 K R m H F := ⟨I.sub, I.res, I.vF⟩
theorem Rel.called {K : PySem.W.Frag} {z : Z0 R} {ρ : List En} {m m' : R.M} {σ : L2.St} {H F H' F' : Hp} (I : Rel K R z ρ m σ H F) (b : Hs K R ⟨F, H, m⟩ m' H' F') : Rel K R z ρ m' σ H' F' ∧ Mv R ρ m σ H F ρ m' σ H' F' := by
  have nv : ∀ a o, z.H a = some o → ¬ R.vol z.m a → ¬ R.vol m a := fun a o e n q => by
    rcases I.vz a q with h | h
    · exact n h
    · rw [e] at h; cases h
  refine ⟨⟨⟨b.sub, b.res, b.vF, fun a o e n => ?_, fun a q => ?_, fun a o e => ?_, I.fz.trans b.fz⟩, I.len, fun i e he => ?_, I.apart, fun a i xs hv e q => ?_⟩, ⟨b.fz, b.zH, fun a o e n => ?_⟩⟩
  · obtain ⟨h1, h2⟩ := I.fr a o e n
    obtain ⟨h3, h4⟩ := b.fr a o h1 (nv a o e n)
    exact ⟨h3, h4.trans h2⟩
  · rcases b.vz a q with h | h
    · exact I.vz a h
    · exact .inr (I.newH h).2.1
  · obtain ⟨o', e'⟩ := I.zH a o e
    exact b.zH a o' e'
  · obtain ⟨v, h1, h2⟩ := I.var i e he
    refine ⟨v, h1, h2.up b.fz fun a xs e0 ho e1 e2 _ => ?_⟩
    obtain ⟨ys, rfl⟩ := ho
    have n : ¬ R.vol m a := fun q => I.vO a i ys q he (by rw [h1, e0])
    obtain ⟨h3, h4⟩ := b.fr a _ e1 n
    exact ⟨h3, h4.trans e2⟩
  · rcases b.vz a hv with h | h
    · exact I.vO a i xs h e q
    · obtain ⟨a', ys, h1, h2, _⟩ := I.own_at e
      rw [q] at h1
      cases h1
      have h' : H a = none := h
      rw [h'] at h2
      cases h2
  · obtain ⟨h3, h4⟩ := b.fr a o e n.1
    refine ⟨h3, h4, fun q => ?_, n.2⟩
    rcases b.vz a q with h | h
    · exact n.1 h
    · have h' : H a = none := h
      rw [h'] at e
      cases e
/-- f(e, ..) -/
def eCall (sp : SpD R) (t : TL R) : TD R := fun Z ρ m Q => t Z ρ m fun ds ρ1 m1 => Firms ds ∧ sp ds m1 (fun d m2 => Q d ρ1 m2) fun x m2 => Z x ρ1 m2
theorem se_call {ta : TA} {n : Nat} (s1 : SA X.K W R ta tl n) : SE X.K W R (tCallS (spOf X.K R n sp) (WE W) ta) (eCall sp tl) := fun z Z ρ m σ H F Q Qh hz I h q => by
  refine s1 z Z ρ m σ H F _ _ hz I h fun vs H1 F1 ρ1 m1 ds I1 f1 r1 hn h1 => ?_
  refine ⟨F1, m1, ds, fun d m2 => Q d ρ1 m2, fun x m2 => Z x ρ1 m2, hn, I1.hs0, r1.dr h1.1, h1.2, fun v H' F' m' d b r hq => ?_, fun x H' F' m' cls d b r hq => ?_⟩
  · obtain ⟨J, mv⟩ := I1.called b
    exact q v H' F' ρ1 m' d J (f1.trans mv) r.dv hq
  · obtain ⟨J, mv⟩ := I1.called b
    exact hz x ρ1 m' σ H' F' cls d J r hq
theorem de_call (D : DefOk X.prog X.w X.K X.mg X.base R k x ps sp) (hr : Room k X.A) (hG : X.A.guards = some []) (hg : Gl X x) (tk : Takes X W) (ha : DA X W R (e :: es) tl) (hl : (e :: es).length = ps.length := by rfl) (hdb : (x == ("__debug__" : Str)) = false := by decide)
    (he : starEach (e :: es) X.env = (false, eval e X.env) :: starEach es X.env := by rfl) (hpl : (backTo pos (starEach es X.env)).any (·.1) = false := by rfl) : DE X W R (.Call (.Name x p) (e :: es) [] pos) (eCall sp tl) := by
  obtain ⟨f, fd, hm, hk, hb, F⟩ := D
  obtain ⟨_, p1, s1⟩ := ha
  rw [hl] at s1
  exact ⟨_, pe_callG F hr hG hg hm hk hb (fun σ => passAt tk σ) p1 hdb he hpl, se_call s1⟩
end

/-! ### a def's body -/
def startE (n : Nat) (ds : List D) : List En := ds.map .dat ++ List.replicate (n - ds.length) .un
theorem start_rel {K : PySem.W.Frag} {R : Rs} {N : List Str} {vs : List V} {ds : List D} {m : R.M} {H F : Hp} (h : Hs0 K R m H F) (r : DrAll K F vs ds) : Rel K R ⟨F, H, m⟩ (startE N.length ds) m (L2.start N vs) H F := by
  have hl := r.length
  have noOwn : ∀ (i : Nat) (xs : List D), (startE N.length ds)[i]? ≠ some (.own xs) := fun i xs e => by
    unfold startE at e
    rw [List.getElem?_append] at e
    split at e
    · rw [List.getElem?_map] at e
      cases q : ds[i]? with
      | none => rw [q] at e; cases e
      | some d => rw [q] at e; cases e
    · rw [List.getElem?_replicate] at e
      split at e <;> cases e
  refine ⟨⟨h.sub, h.res, h.vF, fun a o e _ => ⟨e, rfl⟩, fun a q => .inl q, fun a o e => ⟨o, e⟩, Same.refl F⟩, ?_, fun i e he => ?_, fun i j a xs ys e1 => absurd e1 (noOwn i xs), fun a i xs _ e => absurd e (noOwn i xs)⟩
  · simp [startE, L2.start, hl]
  · unfold startE at he
    unfold L2.start
    rw [List.getElem?_append] at he ⊢
    rw [List.length_map] at he ⊢
    rw [hl]
    split at he
    · rename_i hi
      rw [if_pos hi, List.getElem?_map]
      rw [List.getElem?_map] at he
      cases q : ds[i]? with
      | none => rw [q] at he; cases he
      | some d =>
        rw [q] at he
        cases he
        obtain ⟨v, h1, h2⟩ := r.get q
        exact ⟨some v, by rw [h1]; rfl, v, rfl, h2⟩
    · rename_i hi
      rw [if_neg hi]
      rw [List.getElem?_replicate] at he ⊢
      split at he
      · cases he
        rename_i hj
        rw [if_pos hj]
        exact ⟨_, rfl, trivial⟩
      · cases he
section
variable {P : Program} {w : World} {K : PySem.W.Frag} {mg : Str → Option Value} {base : Heap} {R : Rs} {k : Nat} {x qual : Str} {ps N : List Str} {sp : SpD R} {st : Stmt} {f : Addr} {fd : FuncData}
/-- the context of a def's body -/
abbrev bodyX (P : Program) (w : World) (K : PySem.W.Frag) (mg : Str → Option Value) (base : Heap) (N : List Str) (qual : Str) (st : Stmt) (f : Addr) (cdv : Value) (A : Around) (outer : List Env) (s : Shared) (H : Hp) (E : XK) : Cx :=
  cxOf (L2.CX P w) P w K mg base N qual (defScope st) f cdv A outer s H E
abbrev bodyW (E : XK) : WX := fun cls d _ H => E cls d H
/-- a def of the text -/
structure TopDef (K : PySem.W.Frag) (mg : Str → Option Value) (x : Str) (st : Stmt) : Prop where
  ex : ∃ f fd, mg x = some (.ref f) ∧ Fun K x x st f fd
theorem DefOk.mk' {t : TSd R} (T : TopDef K mg x st) (S : FnScope N ps (defScope st))
    (hbind : ∀ (kV doc pm : Value) (an : Option Addr) (cdv ct : Value) (us : List Value), us.length = ps.length → bindArgs (PySem.W.fnOf x x (defArgs st) (defBody st) (defScope st) .none kV doc pm an cdv ct) ⟨us, []⟩ = pure (ps.zip us))
    (hbody : ∀ (f : Addr) (cdv : Value) (A : Around) (outer : List Env) (s : Shared) (H : Hp) (E : XK), Room k (A.deeper (PyProof.Rows.envOfC x (defScope st) s.heap.objs.size f cdv)) → A.guards = some [] →
      Takes (bodyX P w K mg base N x st f cdv A outer s H E) (bodyW E) → DSs (bodyX P w K mg base N x st f cdv A outer s H E) (bodyW E) R (defBody st) t)
    (hsp : ∀ ds m Q Z, ds.length = ps.length → sp ds m Q Z → t { nx := fun _ m => Q .non m, rt := Q, rz := fun x _ m => Z x m } (startE N.length ds) m) : DefOk P w K mg base R (k + 1) x ps sp := by
  obtain ⟨f, fd, hm, F⟩ := T
  refine ⟨f, fd, hm, F.kp, F.binds hbind, fnG_of F S (fun vs H Q E h => ?_) fun cdv A outer s H vs Q E hr hG h => ?_⟩
  · obtain ⟨_, _, _, _, _, h, _⟩ := h
    exact h
  · obtain ⟨G, m, ds, Qd, Zd, hl, h0, r, hq, h1, h2⟩ := h
    obtain ⟨ts, p1, s1⟩ := hbody f cdv A outer s H E hr hG (takes_of rfl rfl rfl rfl)
    refine ⟨ts, p1, s1 ⟨G, H, m⟩ (startE N.length ds) m (L2.start N vs) H G { nx := fun _ m => Qd .non m, rt := Qd, rz := fun x _ m => Zd x m } _ ⟨fun ρ m' σ H' F' I _ q => ?_, fun d ρ m' v σ H' F' I _ rv q => ?_, fun _ _ _ _ _ _ _ q => q, fun _ _ _ _ _ _ _ q => q, fun x ρ m' σ H' F' cls d I rx q => ?_⟩ (start_rel h0 r) (hsp ds m Qd Zd (by rw [← r.length]; exact hl) hq)⟩
    · exact h1 .non H' F' m' .non I.toHs .non q
    · exact h1 v H' F' m' d I.toHs rv q
    · exact h2 x H' F' m' cls d I.toHs rx q
end
end DL

/-! Data layer: more built-ins, name op= e, lists that shrink. -/
namespace DL
open PySem L2
section
variable {X : Cx} {W : WX} {R : Rs} {a b e : Expr} {es : List Expr} {pos p : Pos} {te ta tb : TD R} {tl : TL R} {x : Str}
/-! ### name op= e -/
def sAug (i : Nat) (o : D2) (t : TD R) : TSd R := fun D ρ m => match nth ρ i with
  | .dat x => x.firm ∧ t D.rz ρ m fun y ρ1 m1 => o (R.view m1) ρ1 x y fun d => D.nx (ρ1.set i (.dat d)) m1
  | _ => False
theorem ds_aug {i : Nat} {op : Operator} {r : R2} {o : D2} {pos' : Pos} (ho : OpR X (inplaceOp op) r) (L : OpL X.K R r o) (hN : X.N.Nodup) (hi : X.N[i]? = some x) (hx : Loc X.env.scope x) (he : DE X W R e te)
    (hf : X.fn x = true ∨ X.env.scope.names.lookup x = some .local := by first | exact .inl rfl | exact .inr rfl | assumption) : DS X W R (.AugAssign (.Name x pos') op e pos) (sAug i o te) := by
  obtain ⟨_, p1, s1⟩ := he
  refine ⟨_, ps_aug hN hi hx p1 ho hf, fun z ρ m σ H F D Dh M I h => ?_⟩
  unfold sAug at h
  split at h
  · rename_i d e1
    obtain ⟨v, h1, h2⟩ := I.dat_at (nth_get e1 (fun q => nomatch q))
    refine ⟨v, h1, s1 z D.rz ρ m σ H F _ _ M.rz I h.2 fun u H1 F1 ρ1 m1 y I1 f1 r1 hq => ?_⟩
    exact L z ρ1 m1 σ H1 F1 v u d y _ _ I1 (h2.up f1.same).dv r1 hq fun w H' F' d' J mv rd hn => M.nx _ m1 _ H' F' (J.setDat i rd) (f1.same.trans mv.same) hn
  · exact h.elim
def iopl_I0 {f : Int → Int → V} {g : Int → Int → D} (h : ∀ K F i j, Dr K F (f i j) (g i j)) : OpL X.K R (rI0 f) (dI0 g) := opl_I0 h
def rIopAdd : R2 := rOr (rI0 fun i j => .int (i + j)) rAddS
def dIopAdd : D2 := fun _ _ x y Q => match x, y with
  | .int i, .int j => Q (.int (i + j))
  | .str i, .str j => i.length + j.length ≤ sizeLine ∧ Q (.str (i ++ j))
  | _, _ => False
theorem opl_iopAdd : OpL X.K R rIopAdd dIopAdd := fun z ρ m σ H F v u x y Q Qh I rx ry h0 q => by
  unfold dIopAdd at h0
  split at h0
  · exact .inl ⟨_, _, rx.int, ry.int, q _ H F _ I Mv.refl (.int _) h0⟩
  · exact .inr ⟨_, _, rx.str, ry.str, h0.1, q _ H F _ I Mv.refl (.str _) h0.2⟩
  · exact h0.elim
section
variable {i : Nat} {pos' : Pos}
theorem ds_augAdd (hN : X.N.Nodup) (hi : X.N[i]? = some x) (hx : Loc X.env.scope x) (he : DE X W R e te) (hf : X.fn x = true ∨ X.env.scope.names.lookup x = some .local := by first | exact .inl rfl | exact .inr rfl | assumption) :
    DS X W R (.AugAssign (.Name x pos') .Add e pos) (sAug i dIopAdd te) := ds_aug (opr_or iop_add iop_add_str) opl_iopAdd hN hi hx he hf
theorem ds_augSub (hN : X.N.Nodup) (hi : X.N[i]? = some x) (hx : Loc X.env.scope x) (he : DE X W R e te) (hf : X.fn x = true ∨ X.env.scope.names.lookup x = some .local := by first | exact .inl rfl | exact .inr rfl | assumption) :
    DS X W R (.AugAssign (.Name x pos') .Sub e pos) (sAug i dSub te) := ds_aug iop_sub (opl_I0 fun _ _ _ _ => .int _) hN hi hx he hf
theorem ds_augMul (hN : X.N.Nodup) (hi : X.N[i]? = some x) (hx : Loc X.env.scope x) (he : DE X W R e te) (hf : X.fn x = true ∨ X.env.scope.names.lookup x = some .local := by first | exact .inl rfl | exact .inr rfl | assumption) :
    DS X W R (.AugAssign (.Name x pos') .Mult e pos) (sAug i dMul te) := ds_aug iop_mul (opl_I fun _ _ _ _ => .int _) hN hi hx he hf
theorem ds_augDiv (hN : X.N.Nodup) (hi : X.N[i]? = some x) (hx : Loc X.env.scope x) (he : DE X W R e te) (hf : X.fn x = true ∨ X.env.scope.names.lookup x = some .local := by first | exact .inl rfl | exact .inr rfl | assumption) :
    DS X W R (.AugAssign (.Name x pos') .FloorDiv e pos) (sAug i dDiv te) := ds_aug iop_fdivW (opl_I fun _ _ _ _ => .int _) hN hi hx he hf
end

/-! ### built-ins of ints -/
def dInt1 (f : Int → D) : DL1 := fun _ _ ds Q => match ds with
  | [.int i] => Q (f i)
  | _ => False
def dInt2 (f : Int → Int → D) : DL1 := fun _ _ ds Q => match ds with
  | [.int i, .int j] => Q (f i j)
  | _ => False
theorem cl_int1 {f : Int → V} {g : Int → D} (h : ∀ K F i, Dr K F (f i) (g i)) : ClL X R (fun xs H Q => ∃ i, xs = [.int i] ∧ Q (f i) H) (dInt1 g) := fun z ρ m σ H F vs ds Q Qh I rs h0 q => by
  unfold dInt1 at h0
  split at h0
  · obtain ⟨v, rfl, r⟩ := rs.one
    obtain rfl := r.int
    exact ⟨_, rfl, q _ H F _ I Mv.refl (h _ _ _) h0⟩
  · exact h0.elim
theorem cl_int2 {f : Int → Int → V} {g : Int → Int → D} (h : ∀ K F i j, Dr K F (f i j) (g i j)) : ClL X R (fun xs H Q => ∃ i j, xs = [.int i, .int j] ∧ Q (f i j) H) (dInt2 g) := fun z ρ m σ H F vs ds Q Qh I rs h0 q => by
  unfold dInt2 at h0
  split at h0
  · obtain ⟨v, v', rfl, r, r'⟩ := rs.two
    obtain rfl := r.int
    obtain rfl := r'.int
    exact ⟨_, _, rfl, q _ H F _ I Mv.refl (h _ _ _ _) h0⟩
  · exact h0.elim
def dToInt : DL1 := fun _ _ ds Q => match ds with
  | [.int i] => Q (.int i)
  | [.bl k] => Q (.int (if k then 1 else 0))
  | _ => False
theorem cl_toInt : ClL X R (fun xs H Q => (∃ i, xs = [.int i] ∧ Q (.int i) H) ∨ ∃ k, xs = [.bl k] ∧ Q (.int (if k then 1 else 0)) H) dToInt := fun z ρ m σ H F vs ds Q Qh I rs h0 q => by
  unfold dToInt at h0
  split at h0
  · obtain ⟨v, rfl, r⟩ := rs.one
    obtain rfl := r.int
    exact .inl ⟨_, rfl, q _ H F _ I Mv.refl (.int _) h0⟩
  · obtain ⟨v, rfl, r⟩ := rs.one
    obtain rfl := r.bl
    exact .inr ⟨_, rfl, q _ H F _ I Mv.refl (.int _) h0⟩
  · exact h0.elim
variable (he : starEach [e] X.env = (false, eval e X.env) :: starEach [] X.env := by rfl) (hpl : (backTo pos (starEach [] X.env)).any (·.1) = false := by rfl)
theorem de_toInt (hg : Gl X "int") (hm : X.mg "int" = none) (ha : DA X W R [e] tl) (he : starEach [e] X.env = (false, eval e X.env) :: starEach [] X.env := by rfl) (hpl : (backTo pos (starEach [] X.env)).any (·.1) = false := by rfl) : DE X W R (.Call (.Name "int" p) [e] [] pos) (eCl dToInt tl) :=
  de_callTy call_int1 cl_toInt hg hm (by decide +kernel) ha (he := he) (hpl := hpl)
abbrev dAbs : DL1 := dInt1 fun i => .int (if i < 0 then -i else i)
theorem de_abs (hg : Gl X "abs") (hm : X.mg "abs" = none) (ha : DA X W R [e] tl) (he : starEach [e] X.env = (false, eval e X.env) :: starEach [] X.env := by rfl) (hpl : (backTo pos (starEach [] X.env)).any (·.1) = false := by rfl) : DE X W R (.Call (.Name "abs" p) [e] [] pos) (eCl dAbs tl) :=
  de_callB call_abs (cl_int1 fun _ _ _ => .int _) hg hm (by decide +kernel) ha (he := he) (hpl := hpl)
abbrev dMax2 : DL1 := dInt2 fun i j => .int (if j > i then j else i)
abbrev dMin2 : DL1 := dInt2 fun i j => .int (if j < i then j else i)
theorem de_max2 (hc : X.calm = true) (hg : Gl X "max") (hm : X.mg "max" = none) (ha : DA X W R [a, b] tl) (he : starEach [a, b] X.env = (false, eval a X.env) :: starEach [b] X.env := by rfl) (hpl : (backTo pos (starEach [b] X.env)).any (·.1) = false := by rfl) : DE X W R (.Call (.Name "max" p) [a, b] [] pos) (eCl dMax2 tl) :=
  de_callB (call_max2 hc) (cl_int2 fun _ _ _ _ => .int _) hg hm (by decide +kernel) ha (he := he) (hpl := hpl)
theorem de_min2 (hc : X.calm = true) (hg : Gl X "min") (hm : X.mg "min" = none) (ha : DA X W R [a, b] tl) (he : starEach [a, b] X.env = (false, eval a X.env) :: starEach [b] X.env := by rfl) (hpl : (backTo pos (starEach [b] X.env)).any (·.1) = false := by rfl) : DE X W R (.Call (.Name "min" p) [a, b] [] pos) (eCl dMin2 tl) :=
  de_callB (call_min2 hc) (cl_int2 fun _ _ _ _ => .int _) hg hm (by decide +kernel) ha (he := he) (hpl := hpl)
/-! of a list of ints, of bools -/
theorem DrAll.bls_of {K : PySem.W.Frag} {F : Hp} : ∀ {vs : List V} {ns : List Bool}, DrAll K F vs (ns.map D.bl) → vs = ns.map V.bl
  | [], [], _ => rfl
  | _ :: _, [], h => by cases h
  | [], _ :: _, h => by cases h
  | _ :: _, n :: ns, h => by
    cases h with
    | cons h1 h2 =>
      cases h1
      rw [DrAll.bls_of h2]
      rfl
def dSum : DL1 := fun w ρ ds Q => ∃ (d : D) (ns : List Int), ds = [d] ∧ itemsL w ρ d = some (ns.map .int) ∧ Q (.int ns.sum)
def dMaxL : DL1 := fun w ρ ds Q => ∃ (d : D) (ns : List Int), ds = [d] ∧ itemsL w ρ d = some (ns.map .int) ∧ 0 < ns.length ∧ ∀ m, m ∈ ns → (∀ y, y ∈ ns → y ≤ m) → Q (.int m)
def dMinL : DL1 := fun w ρ ds Q => ∃ (d : D) (ns : List Int), ds = [d] ∧ itemsL w ρ d = some (ns.map .int) ∧ 0 < ns.length ∧ ∀ m, m ∈ ns → (∀ y, y ∈ ns → m ≤ y) → Q (.int m)
def dAll : DL1 := fun w ρ ds Q => ∃ (d : D) (bs : List Bool), ds = [d] ∧ itemsL w ρ d = some (bs.map .bl) ∧ Q (.bl (bs.all id))
def dAny : DL1 := fun w ρ ds Q => ∃ (d : D) (bs : List Bool), ds = [d] ∧ itemsL w ρ d = some (bs.map .bl) ∧ Q (.bl (bs.any id))
theorem ints_at {K : PySem.W.Frag} {z : Z0 R} {ρ : List En} {m : R.M} {σ : L2.St} {H F : Hp} {vs : List V} {d : D} {ns : List Int} (I : Rel K R z ρ m σ H F) (rs : DvAll K σ F vs [d]) (e : itemsL (R.view m) ρ d = some (ns.map .int)) : ∃ a, vs = [.ref a] ∧ SqL K H a (ns.map V.int) := by
  obtain ⟨v, rfl, r⟩ := rs.one
  obtain ⟨a, xs, rfl, hl, ra⟩ := I.listV r e
  rw [ra.ints_of] at hl
  exact ⟨a, rfl, hl⟩
theorem cl_sum : ClL X R (rSum X.K) dSum := fun z ρ m σ H F vs ds Q Qh I rs h0 q => by
  obtain ⟨d, ns, rfl, e, hq⟩ := h0
  obtain ⟨a, rfl, hl⟩ := ints_at I rs e
  exact ⟨a, ns, rfl, hl, q _ H F _ I Mv.refl (.int _) hq⟩
theorem cl_maxL : ClL X R (rMax X.K) dMaxL := fun z ρ m σ H F vs ds Q Qh I rs h0 q => by
  obtain ⟨d, ns, rfl, e, h1, hq⟩ := h0
  obtain ⟨a, rfl, hl⟩ := ints_at I rs e
  exact ⟨a, ns, rfl, hl, h1, fun m a b => q _ H F _ I Mv.refl (.int _) (hq m a b)⟩
theorem cl_minL : ClL X R (rMin X.K) dMinL := fun z ρ m σ H F vs ds Q Qh I rs h0 q => by
  obtain ⟨d, ns, rfl, e, h1, hq⟩ := h0
  obtain ⟨a, rfl, hl⟩ := ints_at I rs e
  exact ⟨a, ns, rfl, hl, h1, fun m a b => q _ H F _ I Mv.refl (.int _) (hq m a b)⟩
theorem bls_at {K : PySem.W.Frag} {z : Z0 R} {ρ : List En} {m : R.M} {σ : L2.St} {H F : Hp} {vs : List V} {d : D} {ns : List Bool} (I : Rel K R z ρ m σ H F) (rs : DvAll K σ F vs [d]) (e : itemsL (R.view m) ρ d = some (ns.map .bl)) : ∃ a, vs = [.ref a] ∧ SqL K H a (ns.map V.bl) := by
  obtain ⟨v, rfl, r⟩ := rs.one
  obtain ⟨a, xs, rfl, hl, ra⟩ := I.listV r e
  rw [ra.bls_of] at hl
  exact ⟨a, rfl, hl⟩
theorem cl_all : ClL X R (rAll X.K) dAll := fun z ρ m σ H F vs ds Q Qh I rs h0 q => by
  obtain ⟨d, ns, rfl, e, hq⟩ := h0
  obtain ⟨a, rfl, hl⟩ := bls_at I rs e
  exact ⟨a, ns, rfl, hl, q _ H F _ I Mv.refl (.bl _) hq⟩
theorem cl_any : ClL X R (rAny X.K) dAny := fun z ρ m σ H F vs ds Q Qh I rs h0 q => by
  obtain ⟨d, ns, rfl, e, hq⟩ := h0
  obtain ⟨a, rfl, hl⟩ := bls_at I rs e
  exact ⟨a, ns, rfl, hl, q _ H F _ I Mv.refl (.bl _) hq⟩
theorem de_sum (hc : X.calm = true) (hg : Gl X "sum") (hm : X.mg "sum" = none) (ha : DA X W R [e] tl) (he : starEach [e] X.env = (false, eval e X.env) :: starEach [] X.env := by rfl) (hpl : (backTo pos (starEach [] X.env)).any (·.1) = false := by rfl) : DE X W R (.Call (.Name "sum" p) [e] [] pos) (eCl dSum tl) :=
  de_callB (cr_sum hc) cl_sum hg hm (by decide +kernel) ha (he := he) (hpl := hpl)
theorem de_maxL (hc : X.calm = true) (hg : Gl X "max") (hm : X.mg "max" = none) (ha : DA X W R [e] tl) (he : starEach [e] X.env = (false, eval e X.env) :: starEach [] X.env := by rfl) (hpl : (backTo pos (starEach [] X.env)).any (·.1) = false := by rfl) : DE X W R (.Call (.Name "max" p) [e] [] pos) (eCl dMaxL tl) :=
  de_callB (cr_max hc) cl_maxL hg hm (by decide +kernel) ha (he := he) (hpl := hpl)
theorem de_minL (hc : X.calm = true) (hg : Gl X "min") (hm : X.mg "min" = none) (ha : DA X W R [e] tl) (he : starEach [e] X.env = (false, eval e X.env) :: starEach [] X.env := by rfl) (hpl : (backTo pos (starEach [] X.env)).any (·.1) = false := by rfl) : DE X W R (.Call (.Name "min" p) [e] [] pos) (eCl dMinL tl) :=
  de_callB (cr_min hc) cl_minL hg hm (by decide +kernel) ha (he := he) (hpl := hpl)
theorem de_all (hc : X.calm = true) (hg : Gl X "all") (hm : X.mg "all" = none) (ha : DA X W R [e] tl) (he : starEach [e] X.env = (false, eval e X.env) :: starEach [] X.env := by rfl) (hpl : (backTo pos (starEach [] X.env)).any (·.1) = false := by rfl) : DE X W R (.Call (.Name "all" p) [e] [] pos) (eCl dAll tl) :=
  de_callB (cr_all hc) cl_all hg hm (by decide +kernel) ha (he := he) (hpl := hpl)
theorem de_any (hc : X.calm = true) (hg : Gl X "any") (hm : X.mg "any" = none) (ha : DA X W R [e] tl) (he : starEach [e] X.env = (false, eval e X.env) :: starEach [] X.env := by rfl) (hpl : (backTo pos (starEach [] X.env)).any (·.1) = false := by rfl) : DE X W R (.Call (.Name "any" p) [e] [] pos) (eCl dAny tl) :=
  de_callB (cr_any hc) cl_any hg hm (by decide +kernel) ha (he := he) (hpl := hpl)

/-! ### - n; [..] * n; pop; extend -/
def eNeg (t : TD R) : TD R := fun Z ρ m Q => t Z ρ m fun d ρ1 m1 => match d with
  | .int i => Q (.int (-i)) ρ1 m1
  | _ => False
theorem de_neg (h : DE X W R a ta) : DE X W R (.UnaryOp .USub a pos) (eNeg ta) := by
  obtain ⟨_, p1, s1⟩ := h
  refine ⟨_, pe_un un_neg p1, fun z Z ρ m σ H F Q Qh hz I h q => ?_⟩
  refine s1 z Z ρ m σ H F _ _ hz I h fun v H1 F1 ρ1 m1 d I1 f1 r1 h1 => ?_
  cases d <;> first | exact h1.elim | skip
  exact ⟨_, r1.int, q _ H1 F1 ρ1 m1 _ I1 f1 (Dr.dv (.int _)) h1⟩
def repD (xs : List D) (k : Int) : List D := (List.replicate k.toNat xs).flatten
theorem DrAll.rep {K : PySem.W.Frag} {F : Hp} {vs : List V} {ds : List D} (r : DrAll K F vs ds) : ∀ n : Nat, DrAll K F (List.replicate n vs).flatten (List.replicate n ds).flatten
  | 0 => .nil
  | n + 1 => by
    rw [List.replicate_succ, List.replicate_succ, List.flatten_cons, List.flatten_cons]
    exact r.append (DrAll.rep r n)
def eRep (t : TL R) (u : TD R) : TL R := fun Z ρ m Q => t Z ρ m fun ds ρ1 m1 => u Z ρ1 m1 fun k ρ2 m2 => match k with
  | .int k => -(2 ^ 63) ≤ k ∧ k < 2 ^ 63 ∧ ds.length * k.toNat ≤ sizeLine ∧ Q (repD ds k) ρ2 m2
  | _ => False
theorem do_rep (ha : DO X W R a tl) (hb : DE X W R b tb) : DO X W R (.BinOp a .Mult b pos) (eRep tl tb) := by
  obtain ⟨_, p1, s1⟩ := ha
  obtain ⟨_, p2, s2⟩ := hb
  refine ⟨_, pe_op op_rep p1 p2, fun z Z ρ m σ H F Q Qh hz I h q => ?_⟩
  refine s1 z Z ρ m σ H F _ _ hz I h fun a xs ds H1 F1 ρ1 m1 I1 f1 hN L hH r1 h1 => ?_
  obtain ⟨J, e⟩ := I1.freeze L hH
  refine s2 z Z ρ1 m1 σ H1 _ _ _ hz J h1 fun u H2 F2 ρ2 m2 d I2 f2 r2 h2 => ?_
  cases d <;> first | exact h2.elim | skip
  rename_i k
  have hr := (r1.up e).up f2.same
  refine ⟨a, k, xs, rfl, r2.int, I2.sub _ _ (f2.same _ _ upd_same), h2.1, h2.2.1, by rw [r1.length]; exact h2.2.2.1, fun p hp => ?_⟩
  have mv := (f1.freeze hN L.fF).trans f2
  exact q p _ _ _ F2 ρ2 m2 (I2.alloc hp) (mv.trans (Mv.alloc hp)) (mv.free hp) (I2.loose_new hp) upd_same (hr.rep k.toNat) h2.2.2.2
def fPopAt : List D → List D → (D → List D → Prop) → Prop := fun xs es Q => match es with
  | [.int i] => small62 i ∧ ∃ k d, seqIndex? i xs.length = some k ∧ xs[k]? = some d ∧ Q d (xs.eraseIdx k)
  | _ => False
theorem DrAll.erase {K : PySem.W.Frag} {F : Hp} : ∀ {vs : List V} {ds : List D} (k : Nat), DrAll K F vs ds → DrAll K F (vs.eraseIdx k) (ds.eraseIdx k)
  | _, _, _, .nil => .nil
  | _, _, 0, .cons _ t => t
  | _, _, k + 1, .cons r t => .cons r (DrAll.erase k t)
theorem de_popAt {i : Nat} {o : Expr} {apos : Pos} (ho : PE X o (tVar i)) (ha : DA X W R [e] tl) (hbase : attributeBase o "pop" X.env (eval o X.env) = eval o X.env := by rfl)
    (hfew : ((backTo pos (starEach [e] X.env)).all (fun x => !x.1) && (backToKw pos (keywordEach [] X.env)).all (fun x => x.1.isSome) && decide ([e].length + ([] : List Keyword).length + (if ([] : List Keyword).isEmpty then 0 else 1) < 30)) = true := by rfl)
    (hline : (apos.endLine == pos.line) = true := by rfl) (hs : starEach [e] X.env = (false, eval e X.env) :: starEach [] X.env := by rfl) (hplain : (backTo pos (starEach [] X.env)).any (·.1) = false := by rfl) :
    DE X W R (.Call (.Attribute o "pop" apos) [e] [] pos) (eOwnM i tl fPopAt) :=
  de_ownM F.slot_list_pop F.type_list_pop mt_popAt (fun F H a vs xs ds es Q Qh hH r rs h0 q => by
    unfold fPopAt at h0
    split at h0
    · rename_i i
      obtain ⟨⟨h1, h2⟩, k, d, h3, h4, h5⟩ := h0
      cases rs with
      | cons rd rn =>
        cases rn
        cases rd
        obtain ⟨v, h6, h7⟩ := r.get h4
        exact ⟨a, xs, i, k, v, rfl, rfl, hH, by omega, by omega, by rw [r.length]; exact h3, h6, q _ _ _ _ h7 (r.erase k) h5⟩
    · exact h0.elim) ho ha hbase hfew hline hs hplain
end
end DL

/-! Data layer: order of data, sorted, repr, isinstance. -/
namespace DL
open PySem L2
theorem u65 {k : Nat} {A : Around} (h : Room k A) : A.units + 65 < cLine := by
  have := h.un
  omega
section
variable {X : Cx} {W : WX} {R : Rs} {a b e : Expr} {es : List Expr} {pos p : Pos} {te ta tb : TD R} {tl : TL R} {x : Str}
/-! ### <= of data -/
def rLeD (K : PySem.W.Frag) : R2 := fun x y H Q => ∃ d e, Dp K H x d ∧ Dp K H y e ∧ PySem.W.alike d e = true ∧ d ≠ .none ∧ d.depth ≤ 60 ∧ Q (.bl (!PySem.W.dataLt e d)) H
theorem op_leD (hu : X.A.units + 64 < cLine) : OpR X (compareOp .LtE) (rLeD X.K) := by
  intro pins s σ H x y v u Q I rx ry h
  obtain ⟨d, e, hd, he, ha, hn, hdep, q⟩ := h
  obtain ⟨as, r1⟩ := Dp.reads I d x v hd rx
  obtain ⟨bs, r2⟩ := Dp.reads I e y u he ry
  exact PySem.W.le_data r1 r2 ha hn (by omega) ⟨.bl _, H, I, rfl, q⟩
def dLeU : D2 := fun w ρ x y Q => match x, y with
  | .int i, .int j => Q (.bl (decide (i ≤ j)))
  | x, y => (flat w ρ x).pl = true ∧ (flat w ρ y).pl = true ∧ PySem.W.alike (flat w ρ x).toP (flat w ρ y).toP = true ∧ (flat w ρ x).toP ≠ .none ∧ (flat w ρ x).toP.depth ≤ 60 ∧ Q (.bl (!PySem.W.dataLt (flat w ρ y).toP (flat w ρ x).toP))
theorem opl_leU : OpL X.K R (rOr (rI0 fun i j => .bl (decide (i ≤ j))) (rLeD X.K)) dLeU := fun z ρ m σ H F v u x y Q Qh I rx ry h0 q => by
  unfold dLeU at h0
  split at h0
  · exact .inl ⟨_, _, rx.int, ry.int, q _ H F _ I Mv.refl (.bl _) h0⟩
  · obtain ⟨p1, p2, h1, h2, h3, hq⟩ := h0
    exact .inr ⟨_, _, I.dp rx p1, I.dp ry p2, h1, h2, h3, q _ H F _ I Mv.refl (.bl _) hq⟩
theorem opr_leU (hu : X.A.units + 64 < cLine) : OpR X (compareOp .LtE) (rOr (rI0 fun i j => .bl (decide (i ≤ j))) (rLeD X.K)) := opr_or op_le (op_leD hu)
theorem de_le (hu : X.A.units + 64 < cLine) (ha : DE X W R a ta) (hb : DE X W R b tb) : DE X W R (.Compare a [.LtE] [b] pos) (eOp dLeU ta tb) := de_cmp (opr_leU hu) opl_leU ha hb (nomark _)
theorem dt_le (hu : X.A.units + 64 < cLine) (ha : DE X W R a ta) (hb : DE X W R b tb) : DT X W R (.Compare a [.LtE] [b] pos) (bOf (eOp dLeU ta tb)) := dt_cmp (opr_leU hu) opl_leU ha hb (nomark _)

/-! ### sorted -/
abbrev leP (a b : V × PyData) : Bool := PySem.W.dataLe false Prod.snd a b
def rSortedD (K : PySem.W.Frag) : List V → Hp → VK → Prop := fun xs H Q => ∃ (a : Addr) (vs : List V) (ps : List PyData), xs = [.ref a] ∧ SqL K H a vs ∧ DpAll K H vs ps ∧ PySem.W.AllAlike ps ∧ PySem.W.Sortable ps ∧ (∀ d ∈ ps, d.depth ≤ 60) ∧
  ∀ q, H q = none → Q (.ref q) (upd H q (.lst (((vs.zip ps).mergeSort leP).map Prod.fst)))
theorem DpAll.length {K : PySem.W.Frag} {H : Hp} : ∀ {vs : List V} {ds : List PyData}, DpAll K H vs ds → vs.length = ds.length
  | _, _, .nil => rfl
  | _, _, .cons _ t => by rw [List.length_cons, List.length_cons, DpAll.length t]
theorem each_zip {K : PySem.W.Frag} {H : Hp} : ∀ {vs : List V} {ps : List PyData} {us : List Value}, Vals vs us → DpAll K H vs ps → PySem.W.EachIs (fun (u : Value) (b : V × PyData) => RelV b.1 u ∧ Dp K H b.1 b.2) us (vs.zip ps)
  | _, _, _, .nil, .nil => .nil
  | _, _, _, .cons r t, .cons d ds => .cons ⟨r, d⟩ (each_zip t ds)
theorem each_vals {K : PySem.W.Frag} {H : Hp} : ∀ {us : List Value} {bs : List (V × PyData)}, PySem.W.EachIs (fun (u : Value) (b : V × PyData) => RelV b.1 u ∧ Dp K H b.1 b.2) us bs → Vals (bs.map Prod.fst) us
  | _, _, .nil => .nil
  | _, _, .cons r t => .cons r.1 (each_vals t)
theorem zip_snd {α β : Type} : ∀ {as : List α} {bs : List β}, as.length = bs.length → (as.zip bs).map Prod.snd = bs
  | [], [], _ => rfl
  | [], _ :: _, h => by cases h
  | _ :: _, [], h => by cases h
  | a :: as, b :: bs, h => by rw [List.zip_cons_cons, List.map_cons, zip_snd (by simpa using h)]
theorem call_sortedAny (hu : X.A.units + 64 < cLine) : CallR X (.builtin "sorted") (rSortedD X.K) := by
  intro pins s σ H xs us Q I r h
  obtain ⟨a, vs, ps, rfl, hl, hp, hal, hs, hd, q⟩ := h
  obtain ⟨u, rfl, rx⟩ := vals1 r
  cases rx
  obtain ⟨its, ri, pl, hz⟩ := I.list hl
  have hlen := DpAll.length hp
  have es := each_zip ri hp
  have e2 : ((vs.zip ps).map Prod.snd) = ps := zip_snd hlen
  refine PySem.W.sorted_data (enc := Prod.snd) (bs := vs.zip ps) pl.isList es (es.mono fun u b hb => Dp.reads I b.2 b.1 u hb.2 hb.1) (by rw [e2]; exact hal) (by rw [e2]; exact hs) (by rw [List.length_zip]; omega) (fun b hb => ?_) fun out ho hout => ?_
  · have : b.2 ∈ ps := by rw [← e2]; exact List.mem_map_of_mem hb
    have := hd _ this
    omega
  · obtain ⟨en, hnew⟩ := PyProof.Rows.sortedAll_at s.heap its (List.toArray out)
    have rv := each_vals hout
    refine ⟨.ref (s.heap.objs.size + 1), _, I.laid (t' := s.toks) (o := .lst (((vs.zip ps).mergeSort leP).map Prod.fst)) (fun c o e => PyProof.Rows.sortedAll_old e) (Nat.le_succ _) ?_, rfl, q _ (I.hok.fresh (Nat.le_succ _))⟩
    refine ⟨by rw [List.length_map, List.length_mergeSort, List.length_zip]; omega, out, en, rv, hnew⟩
def leD (a b : D) : Bool := PySem.W.dataLe false D.toP a b
theorem toPs_map : ∀ ds : List D, toPs ds = ds.map D.toP
  | [] => rfl
  | d :: ds => by rw [toPs, List.map_cons, toPs_map ds]
def dSorted : DLO := fun w ρ ds Q => ∃ d xs, ds = [d] ∧ itemsL w ρ d = some xs ∧ pls xs = true ∧ PySem.W.AllAlike (xs.map D.toP) ∧ PySem.W.Sortable (xs.map D.toP) ∧ (∀ d ∈ xs, d.toP.depth ≤ 60) ∧ Q (xs.mergeSort leD)
theorem drAll_zip {K : PySem.W.Frag} {F : Hp} : ∀ {vs : List V} {ds : List D}, DrAll K F vs ds → ∀ p ∈ vs.zip ds, Dr K F p.1 p.2
  | _, _, .nil, _, h => by cases h
  | _, _, .cons r t, p, h => by
    rcases List.mem_cons.mp h with e | h
    · subst e; exact r
    · exact drAll_zip t p h
theorem drAll_of {K : PySem.W.Frag} {F : Hp} : ∀ {l : List (V × D)}, (∀ p ∈ l, Dr K F p.1 p.2) → DrAll K F (l.map Prod.fst) (l.map Prod.snd)
  | [], _ => .nil
  | p :: l, h => .cons (h p (List.mem_cons_self ..)) (drAll_of fun q hq => h q (List.mem_cons_of_mem _ hq))
theorem zip_toP : ∀ (vs : List V) (ds : List D), vs.zip (ds.map D.toP) = (vs.zip ds).map fun p => (p.1, p.2.toP)
  | [], _ => rfl
  | _ :: _, [] => rfl
  | v :: vs, d :: ds => by rw [List.map_cons, List.zip_cons_cons, List.zip_cons_cons, List.map_cons, zip_toP vs ds]
theorem clo_sorted : ClO X R (rSortedD X.K) dSorted := fun z ρ m σ H F vs ds Q Qh I rs h0 q => by
  obtain ⟨d, xs, rfl, e, hpl, hal, hs, hd, hq⟩ := h0
  obtain ⟨v, rfl, r⟩ := rs.one
  obtain ⟨a, us, rfl, hl, ra⟩ := I.listV r e
  have hp : DpAll X.K H us (toPs xs) := DpAll.up I.sub _ _ (DrAll.dp _ _ ra hpl)
  rw [toPs_map] at hp
  refine ⟨a, us, xs.map D.toP, rfl, hl, hp, hal, hs, fun d hd' => ?_, fun p hp' => ?_⟩
  · obtain ⟨y, hy, rfl⟩ := List.mem_map.mp hd'
    exact hd y hy
  · have e1 : (us.zip (xs.map D.toP)).mergeSort leP = ((us.zip xs).mergeSort fun a b => leD a.2 b.2).map fun p => (p.1, p.2.toP) := by
      rw [zip_toP]
      exact (PySem.W.sort_maps (fun p : V × D => (p.1, p.2.toP)) (fun _ _ _ _ => rfl)).symm
    have e2 : (((us.zip xs).mergeSort fun a b => leD a.2 b.2).map Prod.snd) = xs.mergeSort leD := by
      rw [PySem.W.sort_maps (s := leD) Prod.snd (fun _ _ _ _ => rfl), zip_snd ra.length]
    have e3 : (((us.zip (xs.map D.toP)).mergeSort leP).map Prod.fst) = (((us.zip xs).mergeSort fun a b => leD a.2 b.2).map Prod.fst) := by
      rw [e1, List.map_map]
      rfl
    rw [e3]
    refine q p _ _ _ (I.alloc hp') (Mv.alloc hp') hp' (I.loose_new hp') upd_same ?_ hq
    rw [← e2]
    exact drAll_of fun p hp2 => drAll_zip ra p ((List.mergeSort_perm _ _).mem_iff.mp hp2)
theorem do_sorted (hu : X.A.units + 64 < cLine) (hg : Gl X "sorted") (hm : X.mg "sorted" = none) (ha : DA X W R [e] tl) (he : starEach [e] X.env = (false, eval e X.env) :: starEach [] X.env := by rfl) (hpl : (backTo pos (starEach [] X.env)).any (·.1) = false := by rfl) : DO X W R (.Call (.Name "sorted" p) [e] [] pos) (eClO dSorted tl) :=
  do_callB (call_sortedAny hu) clo_sorted hg hm (by decide +kernel) ha (he := he) (hpl := hpl)

/-! ### repr of lists and tuples -/
def rReprD (K : PySem.W.Frag) : List V → Hp → VK → Prop := fun xs H Q => ∃ (a : Addr) (d : PyData), xs = [.ref a] ∧ Dp K H (.ref a) d ∧ d.showable = true ∧ d.hasDict = false ∧ d.depth ≤ 60 ∧ d.shown.length ≤ sizeLine ∧ Q (.str d.shown) H
theorem call_reprD (hG : X.A.guards = some []) (hu : X.A.units + 64 < cLine) : CallR X (.builtin "repr") (rReprD X.K) := by
  intro pins s σ H xs us Q I r h
  obtain ⟨a, d, rfl, hd, h1, h2, h3, h4, q⟩ := h
  obtain ⟨u, rfl, rx⟩ := vals1 r
  have rx' : u = .ref a := rx
  subst rx'
  obtain ⟨as, rd⟩ := Dp.reads I d (.ref a) (.ref a) hd rfl
  refine repr_of_reads' (h₀ := s.heap) rd h1 (fun q => by rw [h2] at q; cases q) hG (by omega) (fun _ _ e => e) (fun h' t tk hk => ?_) h4
  exact ⟨.str d.shown, H, I.kept (t' := tk) hk, ⟨_, rfl⟩, q⟩
def dRepr : DL1 := fun w ρ ds Q => match ds with
  | [d] => (match flat w ρ d with
    | .lst _ => True
    | .tup _ => True
    | _ => False) ∧ (flat w ρ d).pl = true ∧ (flat w ρ d).toP.showable = true ∧ (flat w ρ d).toP.hasDict = false ∧ (flat w ρ d).toP.depth ≤ 60 ∧ (flat w ρ d).toP.shown.length ≤ sizeLine ∧ Q (.str (flat w ρ d).toP.shown)
  | _ => False
theorem cl_repr : ClL X R (rReprD X.K) dRepr := fun z ρ m σ H F vs ds Q Qh I rs h0 q => by
  unfold dRepr at h0
  split at h0
  · rename_i d
    obtain ⟨v, rfl, r⟩ := rs.one
    obtain ⟨hk, hp, h1, h2, h3, h4, hq⟩ := h0
    have dp := I.dp r hp
    have ha : ∃ a, v = .ref a := by
      cases e : flat (R.view m) ρ d <;> rw [e] at hk dp <;> first | exact hk.elim | skip
      · cases dp; exact ⟨_, rfl⟩
      · cases dp; exact ⟨_, rfl⟩
    obtain ⟨a, rfl⟩ := ha
    exact ⟨a, _, rfl, dp, h1, h2, h3, h4, q _ H F _ I Mv.refl (.str _) hq⟩
  · exact h0.elim
theorem de_repr (hG : X.A.guards = some []) (hu : X.A.units + 64 < cLine) (hg : Gl X "repr") (hm : X.mg "repr" = none) (ha : DA X W R [e] tl) (he : starEach [e] X.env = (false, eval e X.env) :: starEach [] X.env := by rfl) (hpl : (backTo pos (starEach [] X.env)).any (·.1) = false := by rfl) : DE X W R (.Call (.Name "repr" p) [e] [] pos) (eCl dRepr tl) :=
  de_callB (call_reprD hG hu) cl_repr hg hm (by decide +kernel) ha (he := he) (hpl := hpl)

/-! ### isinstance with a built-in class -/
inductive Kd where
  | non | bl | int | str | lst | tup
def Kd.name : Kd → String
  | .non => "NoneType" | .bl => "bool" | .int => "int" | .str => "str" | .lst => "list" | .tup => "tuple"
def Kd.isa : Kd → Kd → Bool
  | .non, .non => true | .bl, .bl => true | .bl, .int => true | .int, .int => true | .str, .str => true | .lst, .lst => true | .tup, .tup => true
  | _, _ => false
theorem Kd.isa_ok : ∀ a b : Kd, b.name ≠ "NoneType" → kitB a.name b.name = some (a.isa b)
  | a, b, h => by cases b <;> first | exact absurd rfl h | (cases a <;> decide +kernel)
def kd (w : Vw) (ρ : List En) (d : D) : Option Kd := match flat w ρ d with
  | .non => some .non
  | .bl _ => some .bl
  | .int _ => some .int
  | .str _ => some .str
  | .lst _ => some .lst
  | .tup _ => some .tup
  | _ => none
theorem tyx_l {K : PySem.W.Frag} {H : Hp} {a : Addr} {xs : List V} (h : SqL K H a xs) : TyX K H (.ref a) (.type "list") := by
  rcases h with (h | ⟨o, h⟩) | ⟨o, _, _, h, c, _⟩
  · exact .base (.lst h)
  · exact .base (.frz h)
  · exact .kList h c
theorem tyx_t {K : PySem.W.Frag} {H : Hp} {a : Addr} {xs : List V} (h : SqT K H a xs) : TyX K H (.ref a) (.type "tuple") := by
  rcases h with (h | ⟨o, h⟩) | ⟨o, _, _, h, c, _⟩
  · exact .base (.tup h)
  · exact .fTuple h
  · exact .kTuple h c
theorem Rel.kd_ty {K : PySem.W.Frag} {z : Z0 R} {ρ : List En} {m : R.M} {σ : L2.St} {H F : Hp} (I : Rel K R z ρ m σ H F) {v : V} {d : D} {k : Kd} (r : Dv K σ F v d) (h : kd (R.view m) ρ d = some k) : TyX K H v (.type k.name) := by
  have lst : ∀ xs, itemsL (R.view m) ρ d = some xs → TyX K H v (.type "list") := fun xs e => by
    obtain ⟨a, us, rfl, hl, _⟩ := I.listV r e
    exact tyx_l hl
  cases d with
  | non => cases h; obtain rfl := r.non; exact .base .non
  | bl b => cases h; obtain rfl := r.bl; exact .base (.bl b)
  | int i => cases h; obtain rfl := r.int; exact .base (.int i)
  | str i => cases h; obtain rfl := r.str; exact .base (.str i)
  | lst xs => cases h; exact lst xs rfl
  | tup xs =>
    cases h
    obtain ⟨a, us, rfl, ht, _⟩ := r.tup
    exact tyx_t (Same.sqT I.sub ht)
  | raw w =>
    cases w with
    | ref a =>
      cases q : R.view m a with
      | none => simp [kd, flat, q] at h
      | some xs =>
        have h' : Kd.lst = k := by simpa [kd, flat, q] using h
        subst h'
        exact lst xs (by simp [itemsL, q])
    | _ => cases h
  | slot i =>
    cases q : nth ρ i with
    | un => simp [kd, flat, q] at h
    | dat e => simp [kd, flat, q] at h
    | own xs =>
      have h' : Kd.lst = k := by simpa [kd, flat, q] using h
      subst h'
      exact lst xs (by simp [itemsL, q])
def eIsi (n : Kd) (t : TD R) : TD R := fun Z ρ m Q => t Z ρ m fun d ρ1 m1 => match kd (R.view m1) ρ1 d with
  | some k => Q (.bl (k.isa n)) ρ1 m1
  | none => False
theorem de_isinst {n : Kd} {y : Str} {p2 : Pos} (hg : Gl X "isinstance") (hm : X.mg "isinstance" = none) (hy : Gl X y) (hmy : X.mg y = none) (hv : bootBuiltins y = some (.type n.name)) (hn : n.name ≠ "NoneType") (ha : DE X W R e te) (hyn : y ≠ "__name__" := by decide) (hyd : (y == ("__debug__" : Str)) = false := by decide)
    (he : starEach [e, .Name y p2] X.env = (false, eval e X.env) :: starEach [.Name y p2] X.env := by rfl) (he2 : starEach [.Name y p2] X.env = (false, eval (.Name y p2) X.env) :: starEach [] X.env := by rfl) (hpl : (backTo pos (starEach [.Name y p2] X.env)).any (·.1) = false := by rfl) :
    DE X W R (.Call (.Name "isinstance" p) [e, .Name y p2] [] pos) (eIsi n te) := by
  obtain ⟨_, p1, s1⟩ := ha
  refine ⟨_, pe_callB call_isi hg hm (by decide +kernel) (pa_cons p1 (pa_cons (pe_bltn (v := .ty n.name) hy hmy hv rfl hyn hyd) pa_nil he2) he) (he := he) (hpl := hpl), fun z Z ρ m σ H F Q Qh hz I h q => ?_⟩
  refine s1 z Z ρ m σ H F _ _ hz I h fun v H1 F1 ρ1 m1 d I1 f1 r1 h1 => ?_
  cases e : kd (R.view m1) ρ1 d with
  | none => rw [e] at h1; exact h1.elim
  | some k =>
    rw [e] at h1
    exact ⟨v, .ty n.name, _, _, _, rfl, .ty _, I1.kd_ty r1 e, kit_ty (Kd.isa_ok k n hn), q _ H1 F1 ρ1 m1 _ I1 f1 (Dr.dv (.bl _)) h1⟩
end
end DL

/-! Data layer: the laws' draws as a resource, the end of a law. -/
namespace DL
open PySem L2
/-- the state of the draws: a list of a list of numbers and a number -/
structure Dst (s c : Addr) (H : Hp) : Prop where
  ne : s ≠ c
  ex : ∃ (cells : List Int) (sd : Int), H s = some (.lst [.ref c, .int sd]) ∧ H c = some (.lst (cells.map V.int)) ∧ (∀ x ∈ cells, 0 ≤ x) ∧ 0 ≤ sd ∧ sd < 2147483648
/-- a thing that may change: a list, an instance -/
inductive Cell where
  | lst (xs : List D)
  | ins (C : Addr) (fs : List (Str × D))
/-- the fields of an instance -/
inductive FsRel (K : PySem.W.Frag) (F : Hp) : List (Str × V) → List (Str × D) → Prop
  | nil : FsRel K F [] []
  | cons {f : Str} {v : V} {d : D} {fvs : List (Str × V)} {fs : List (Str × D)} : Dr K F v d → FsRel K F fvs fs → FsRel K F ((f, v) :: fvs) ((f, d) :: fs)
theorem FsRel.up {K : PySem.W.Frag} {F F' : Hp} (s : Same F F') : ∀ {fvs : List (Str × V)} {fs : List (Str × D)}, FsRel K F fvs fs → FsRel K F' fvs fs
  | _, _, .nil => .nil
  | _, _, .cons r t => .cons (r.up s) (FsRel.up s t)
def CellOk (K : PySem.W.Frag) (F H : Hp) (a : Addr) : Cell → Prop
  | .lst xs => ∃ vs, H a = some (.lst vs) ∧ DrAll K F vs xs
  | .ins C fs => ∃ dx fvs, H a = some (.ins C dx fvs) ∧ FsRel K F fvs fs
theorem CellOk.up {K : PySem.W.Frag} {F F' H H' : Hp} {a : Addr} {c : Cell} (h : CellOk K F H a c) (s : Same F F') (k : ∀ o, H a = some o → H' a = some o) : CellOk K F' H' a c := by
  cases c with
  | lst xs => obtain ⟨vs, h1, h2⟩ := h; exact ⟨vs, k _ h1, h2.up s⟩
  | ins C fs => obtain ⟨dx, fvs, h1, h2⟩ := h; exact ⟨dx, fvs, k _ h1, h2.up s⟩
theorem CellOk.live {K : PySem.W.Frag} {F H : Hp} {a : Addr} {c : Cell} (h : CellOk K F H a c) : ∃ o, H a = some o := by
  cases c with
  | lst xs => obtain ⟨vs, h1, h2⟩ := h; exact ⟨_, h1⟩
  | ins C fs => obtain ⟨dx, fvs, h1, h2⟩ := h; exact ⟨_, h1⟩
/-- the draws' state, if there is one; the cells -/
structure Ms where
  d : Option (Addr × Addr)
  μ : Addr → Option Cell
def Ms.put (m : Ms) (a : Addr) (c : Cell) : Ms := ⟨m.d, fun b => if b = a then some c else m.μ b⟩
def Ms.del (m : Ms) (a : Addr) : Ms := ⟨m.d, fun b => if b = a then none else m.μ b⟩
def isDr (d : Option (Addr × Addr)) (a : Addr) : Prop := match d with
  | none => False
  | some p => a = p.1 ∨ a = p.2
def drOk (d : Option (Addr × Addr)) (H : Hp) : Prop := match d with
  | none => True
  | some p => Dst p.1 p.2 H
structure MsOk (K : PySem.W.Frag) (F : Hp) (m : Ms) (H : Hp) : Prop where
  dr : drOk m.d H
  ap : ∀ a, isDr m.d a → m.μ a = none
  cell : ∀ a c, m.μ a = some c → CellOk K F H a c
theorem drOk.live {d : Option (Addr × Addr)} {H : Hp} {a : Addr} (h : drOk d H) (hv : isDr d a) : ∃ o, H a = some o := by
  cases d with
  | none => exact hv.elim
  | some p =>
    have h' : Dst p.1 p.2 H := h
    obtain ⟨cells, sd, h1, h2, _⟩ := h'.ex
    rcases hv with e | e
    · exact ⟨_, by rw [e]; exact h1⟩
    · exact ⟨_, by rw [e]; exact h2⟩
theorem drOk.ext {d : Option (Addr × Addr)} {H H' : Hp} (h : drOk d H) (k : ∀ a o, isDr d a → H a = some o → H' a = some o) : drOk d H' := by
  cases d with
  | none => trivial
  | some p =>
    have h' : Dst p.1 p.2 H := h
    obtain ⟨cells, sd, h1, h2, h3⟩ := h'.ex
    exact ⟨h'.ne, cells, sd, k _ _ (.inl rfl) h1, k _ _ (.inr rfl) h2, h3⟩
def Ms.vol (m : Ms) (a : Addr) : Prop := isDr m.d a ∨ ∃ c, m.μ a = some c
def Ms.view (m : Ms) (a : Addr) : Option (List D) := match m.μ a with
  | some (.lst xs) => some xs
  | _ => none
def RD : Rs where
  M := Ms
  vol := Ms.vol
  ok := MsOk
  live := fun {K F m H a} h hv => by
    rcases hv with hv | ⟨c, e⟩
    · exact h.dr.live hv
    · exact (h.cell a c e).live
  ext := fun {K F F' m H H'} h s k => ⟨h.dr.ext fun a o q e => k a o (.inl q) e, h.ap, fun a c e => (h.cell a c e).up s fun o q => k a o (.inr ⟨c, e⟩) q⟩
  view := Ms.view
  see := fun {K F m H a ds} h e => by
    unfold Ms.view at e
    split at e
    · rename_i xs q
      cases e
      exact h.cell a _ q
    · cases e
/-- a draw: the state's place, how many -/
def sp_draw : SpD RD := fun ds m Q _ => ∃ (s c : Addr) (many : Int), ds = [.raw (.ref s), .int many] ∧ m.d = some (s, c) ∧ 0 < many ∧ many < 2 ^ 64 ∧ ∀ r : Int, 0 ≤ r → r < many → Q (.int r) m
/-- nothing is drawn, nothing may change -/
abbrev m00 : Ms := ⟨none, fun _ => none⟩
section
variable {X : Cx} {W : WX} {a b : Expr} {tl : TL RD} {tb : TD RD} {pos pos' : Pos}
/-- return [[..], n]: a new state of draws -/
def sRetSt (tl : TL RD) (tb : TD RD) : TSd RD := fun G ρ m => tl G.rz ρ m fun xs ρ1 m1 => tb G.rz ρ1 m1 fun y _ m2 => match y with
  | .int sd => (∃ ns : List Int, xs = ns.map D.int ∧ ∀ n ∈ ns, 0 ≤ n) ∧ 0 ≤ sd ∧ sd < 2147483648 ∧ m2.d = none ∧ ∀ s c : Addr, m2.μ s = none → m2.μ c = none → G.rt (.raw (.ref s)) ⟨some (s, c), m2.μ⟩
  | _ => False
theorem ds_retSt (ha : DO X W RD a tl) (hb : DE X W RD b tb) (h1 : starEach [a, b] X.env = (false, eval a X.env) :: starEach [b] X.env := by rfl) (h2 : starEach [b] X.env = (false, eval b X.env) :: starEach [] X.env := by rfl) : DS X W RD (.Return (some (.List [a, b] pos)) pos') (sRetSt tl tb) := by
  obtain ⟨_, p1, s1⟩ := ha
  obtain ⟨_, p2, s2⟩ := hb
  refine ⟨_, ps_ret (pe_lst (pa_cons p1 (pa_cons p2 pa_nil h2) h1)), fun z ρ m σ H F D Dh M I h => ?_⟩
  refine s1 z D.rz ρ m σ H F _ _ M.rz I h fun c xs ds H1 F1 ρ1 m1 I1 mv1 hN L hH r1 h1 => ?_
  refine s2 z D.rz ρ1 m1 σ H1 F1 _ _ M.rz I1 h1 fun v H2 F2 ρ2 m2 y I2 mv2 r2 h2 => ?_
  cases y <;> first | exact h2.elim | skip
  rename_i sd
  obtain ⟨⟨ns, e, hns⟩, hs0, hs1, hm, hq⟩ := h2
  subst e
  obtain rfl := r2.int
  obtain ⟨eC, fC, nC⟩ := mv2.kp c _ hH ⟨L.vol, L.own⟩
  have hxs := r1.ints_of
  subst hxs
  refine ⟨by show 2 ≤ sizeLine; rw [sizeLine_eq]; decide, fun p hp => ?_⟩
  have ne : p ≠ c := fun q => by rw [q, eC] at hp; cases hp
  have J := I2.alloc (o := .lst [V.ref c, V.int sd]) hp
  have Lp := I2.loose_new (o := .lst [V.ref c, V.int sd]) hp
  have eC' : upd H2 p (.lst [V.ref c, V.int sd]) c = some (.lst (ns.map V.int)) := by rw [upd_ne ne.symm]; exact eC
  have fC' : F2 c = none := by rw [fC]; exact L.fF
  have mp : m2.μ p = none := by
    cases q : m2.μ p with
    | none => rfl
    | some u => exact absurd (.inr ⟨u, q⟩) Lp.vol
  have mc : m2.μ c = none := by
    cases q : m2.μ c with
    | none => rfl
    | some u => exact absurd (.inr ⟨u, q⟩) nC.1
  have K' : Rel X.K RD z ρ2 (⟨some (p, c), m2.μ⟩ : Ms) σ (upd H2 p (.lst [V.ref c, V.int sd])) F2 := by
    refine ⟨⟨J.sub, ⟨⟨ne, ns, sd, upd_same, eC', hns, hs0, hs1⟩, fun a ha => ?_, J.res.cell⟩, fun a ha => ?_, J.fr, fun a ha => ?_, J.zH, J.fz⟩, J.len, J.var, J.apart, fun a i xs ha e q => ?_⟩
    · rcases ha with e | e
      · rw [e]; exact mp
      · rw [e]; exact mc
    · rcases ha with (e | e) | ha
      · rw [e]; exact Lp.fF
      · rw [e]; exact fC'
      · exact J.vF a (.inr ha)
    · rcases ha with (e | e) | ha
      · rw [e]; exact .inr Lp.zH
      · rw [e]; exact .inr L.zH
      · exact J.vz a (.inr ha)
    · rcases ha with (e' | e') | ha
      · rw [e'] at q
        exact Lp.own i xs e q
      · rw [e'] at q
        exact nC.2 i xs e q
      · exact J.vO a i xs (.inr ha) e q
  exact M.rt (.raw (.ref p)) ρ2 (⟨some (p, c), m2.μ⟩ : Ms) (.ref p) σ _ F2 K' (mv1.same.trans mv2.same) (.raw _) (hq p c mp mc)
end

/-! ### the end of a law -/
/-- the law's promise: any script of at most 63 ints, True -/
def sp_law : SpD RD := fun ds m Q _ => ∃ ns : List Int, ds = [.lst (ns.map .int)] ∧ m = m00 ∧ ns.length ≤ 63 ∧ ∀ m', Q (.bl true) m'
section
variable {P : Program} {w : World} {K : PySem.W.Frag} {mg mb : Str → Option Value}
theorem law_end {fa a : Addr} {f x : Str} {s₁ : Shared} {vs : List Value} {ns : List Int} (KX : K.In s₁.heap) (hns : s₁.heap.Ns mainGlobals mg) (hb : s₁.heap.Ns builtinsNs mb) (hbb : ∀ y : Str, y ≠ "__name__" → mb y = bootBuiltins y)
    (hlim : s₁.heap.NoLimit) (hg : s₁.gens = #[]) (ha : s₁.heap.get? a = some { cls := .type "list", data := .seq vs.toArray }) (hi : PyProof.Rows.IntsAre vs ns) (hl : ns.length ≤ 63) {k : Nat} (hr : Room k PySem.callerA)
    (hfa : mg f = some (.ref fa)) (F : ∀ base : Heap, K.In base → base.Ns mainGlobals mg → DefOk P w K mg base RD k f [x] sp_law) :
    codeAny (model P w) PySem.callerA (.call (.ref fa) ⟨[.ref a], []⟩) (fun r s' => r = .ok (.ret (.bool true)) ∧ OldK s₁.heap s'.heap ∧ s'.os = s₁.os ∧ PyProof.Rows.AllBare s'.gens) s₁ := by
  have rv := vals_ints hi
  have lenV := hi.length
  have hl2 : ns.length ≤ sizeLine := Nat.le_trans hl (by rw [sizeLine_eq]; decide)
  -- whether the script is tracked or one of the module's own objects
  suffices core : ∀ H : Hp, Only H → SqL K H a (ns.map V.int) → HOk P w H s₁.heap → (∀ b, H b ≠ none → b = a ∧ K.lookup a = none) → codeAny (model P w) PySem.callerA (.call (.ref fa) ⟨[.ref a], []⟩) (fun r s' => r = .ok (.ret (.bool true)) ∧ OldK s₁.heap s'.heap ∧ s'.os = s₁.os ∧ PyProof.Rows.AllBare s'.gens) s₁ by
    rcases hk : K.lookup a with _ | o
    · let o₁ : Obj := { cls := .type "list", data := .seq vs.toArray }
      have at_a : ∀ {b u}, (fun b => if b = a then some (HO.frz o₁ (.lst (ns.map V.int))) else none) b = some u → b = a ∧ u = HO.frz o₁ (.lst (ns.map V.int)) := fun {b u} q => by
        by_cases e : b = a
        · exact ⟨e, (Option.some.inj ((if_pos e).symm.trans q)).symm⟩
        · exact absurd ((if_neg e).symm.trans q) (fun z => by cases z)
      refine core (fun b => if b = a then some (HO.frz o₁ (.lst (ns.map V.int))) else none) (fun b => ?_) (Or.inl (Or.inr ⟨o₁, if_pos rfl⟩)) (fun b u q => ?_) (fun b q => ?_)
      · by_cases e : b = a
        · exact Or.inr ⟨o₁, ns.map V.int, if_pos e⟩
        · exact Or.inl (if_neg e)
      · obtain ⟨e1, e2⟩ := at_a q
        subst e1 e2
        exact ⟨ha, by rw [List.length_map]; exact hl2, vs, 0, rv, ha⟩
      · cases e : (fun b => if b = a then some (HO.frz o₁ (.lst (ns.map V.int))) else none) b with
        | none => exact absurd e q
        | some u => exact ⟨(at_a e).1, hk⟩
    · have e : some o = some _ := (KX a o hk).symm.trans ha
      cases e
      exact core (fun _ => none) (fun _ => Or.inl rfl) (Or.inr ⟨_, vs.toArray, 0, hk, rfl, rfl, rfl, by simpa [lenV] using hl2, by simpa using rv⟩) (fun _ _ q => nomatch q) (fun _ q => absurd rfl q)
  intro H hO hS hok hA
  have hid : ∀ {b o}, s₁.heap.get? b = some o → H b = none → (hidT s₁.heap H).get? b = some o := fun e n => hidT_get e n
  have nsOf : ∀ {b : Addr} {m : Str → Option Value}, s₁.heap.Ns b m → (hidT s₁.heap H).Ns b m := by
    rintro b m ⟨o, es, ep, e, d, r⟩
    refine ⟨o, es, ep, hid e ?_, d, r⟩
    cases q : H b with
    | none => rfl
    | some u =>
      have z := (hA b (by simp [q])).1
      subst z
      rw [ha] at e
      cases e
      cases d
  have inB : K.In (hidT s₁.heap H) := fun b o e => hid (KX b o e) (by
    cases q : H b with
    | none => rfl
    | some u =>
      obtain ⟨z, z2⟩ := hA b (by simp [q])
      subst z
      rw [z2] at e
      cases e)
  have md : Mod K mg (hidT s₁.heap H) := ⟨inB, nsOf hns, ⟨mb, nsOf hb, hbb⟩, by
    obtain ⟨mc, n1, n2⟩ := hlim
    exact ⟨mc, nsOf n1, n2⟩⟩
  have en : Env0 P w K mg (hidT s₁.heap H) PySem.callerA [] s₁ H := ⟨rfl, md, fun _ _ e => of_hidT e, Nat.le_of_eq (hidT_size _ _), trivial, (fun b q => absurd (show b ∈ ([] : List Addr) from q) (by simp)), hok, PyProof.Rows.AllBare.of_eq hg⟩
  have pr : spOf K RD 1 sp_law [V.ref a] H (fun v _ => v = .bl true) E0 := by
    refine ⟨H, m00, [.lst (ns.map .int)], fun d _ => d = .bl true, fun _ _ => False, rfl, ⟨Same.refl H, ⟨trivial, fun _ _ => rfl, fun _ _ q => nomatch q⟩, fun _ q => q.elim (fun q => q.elim) fun ⟨_, q⟩ => nomatch q⟩, .cons (.lst hS (DrAll.ints ns)) .nil, ⟨ns, rfl, rfl, hl, fun _ => rfl⟩, fun v H' F' m' d _ r q => ?_, fun _ _ _ _ _ _ _ _ q => q⟩
    have q' : d = .bl true := q
    subst q'
    cases r
    rfl
  obtain ⟨f', fd, hm, _, hbind, hF⟩ := (F _ inB (nsOf hns)).ex
  have ef := hfa.symm.trans hm
  cases ef
  refine codeAny_mono (hF.run PySem.callerA [] s₁ H ⟨[.ref a], []⟩ [.ref a] [.ref a] _ _ hr rfl en (hbind s₁ [.ref a] KX rfl) (.cons rfl .nil) pr) ?_
  intro res s' h
  match res, h with
  | .error e, h =>
    obtain ⟨_, _, _, _, _, _, _, _, _, _, _, _, z⟩ := h
    exact z.elim
  | .ok .next, h => exact h.elim
  | .ok .brk, h => exact h.elim
  | .ok .cont, h => exact h.elim
  | .ok (.ret u), h =>
    obtain ⟨v, H', os, bare, un, ok', ru, q⟩ := h
    have q2 : v = .bl true := q
    subst q2
    have q3 : u = Value.bool true := ru
    subst q3
    refine ⟨rfl, OldK.of_keep fun b o e => ?_, os, bare⟩
    rcases hO b with z | ⟨ob, xs, z⟩
    · exact un.keep b o e z (fun q => by cases q) (fun q => by cases q)
    · have e1 := (hok b _ z).1
      have e2 := (ok' b _ (un.frzs b ob _ z)).1
      rw [e] at e1
      cases e1
      exact e2
end
/-- from the law's promise to the goal behind the head -/
theorem law_walk {l : PySem.W.OpenLaw} {k : Nat} {q : Program} {loose : List Str} {XP : (Str → Option Value) → Heap → Prop} {YP : World → Heap → Prop} {d : DefRec} {K : Params → PySem.W.Frag} {x : Str} (hn : l.most = some 63) (hdf : d.params.defaults = []) (hr : Room k PySem.callerA)
    (hY : ∀ (w : World) (h : Heap), YP w h → (K w.params).In h)
    (F : ∀ (w : World) (mg : Str → Option Value) (h : Heap), (K w.params).In h → h.Ns mainGlobals mg → ∀ base : Heap, (K w.params).In base → base.Ns mainGlobals mg → DefOk l.prog w (K w.params) mg base RD k d.name [x] sp_law) :
    PySem.W.WalkO q loose XP YP l.row.toRowW d [] (fun f vs => PySem.call f vs) := by
  refine Att.attach_call hn hdf ?_
  intro w s₀ s₁ mg mb fa o pm cd doc a vs ns G Y ho hd hcd hmg hobj hints hlen hg
  exact law_end (hY w _ Y) G.T.g G.T.b G.T.builtins G.T.nolimit hg hobj hints hlen hr hmg (F w mg _ (hY w _ Y) G.T.g)
section
variable {K : PySem.W.Frag} {h : Heap} {mg : Str → Option Value} {x : Str} {st : Stmt} {f : Addr} {oc : Value} {od an : Option Addr} {osl : Array (Option Value)} {kV doc pm cdv ct : Value}
theorem top_mk (X : K.In h) (G : h.Ns mainGlobals mg) (a : PySem.W.nsIn K mainGlobals x = some (some (.ref f))) (l : K.lookup f = some ⟨oc, od, .func (PySem.W.fnOf x x (defArgs st) (defBody st) (defScope st) .none kV doc pm an cdv ct), osl⟩)
    (c : PySem.W.codeIn K cdv x = true) (k : PySem.W.keepIn K (.ref f) = true) : TopDef K mg x st := ⟨_, _, PySem.W.mg_of X G a, fun_mk l c k⟩
end
end DL

/-! Data layer: lists that may be held by several (cells). -/
namespace DL
open PySem L2
section
variable {K : PySem.W.Frag} {z : Z0 RD} {ρ : List En} {m : Ms} {σ : L2.St} {H F : Hp}
theorem Ms.put_same {a : Addr} {c : Cell} : (m.put a c).μ a = some c := if_pos rfl
theorem Ms.put_ne {a b : Addr} {c : Cell} (h : b ≠ a) : (m.put a c).μ b = m.μ b := if_neg h
theorem Ms.del_same {a : Addr} : (m.del a).μ a = none := if_pos rfl
theorem Ms.del_ne {a b : Addr} (h : b ≠ a) : (m.del a).μ b = m.μ b := if_neg h
theorem Ms.put_d {a : Addr} {c : Cell} : (m.put a c).d = m.d := rfl
theorem none_of_not_vol {a : Addr} (h : ¬ RD.vol m a) : m.μ a = none := by
  cases q : m.μ a with
  | none => rfl
  | some u => exact absurd (.inr ⟨u, q⟩) h
theorem vol_put {a b : Addr} {c : Cell} (h : RD.vol (m.put a c) b) : b = a ∨ RD.vol m b := by
  rcases h with h | ⟨u, e⟩
  · exact .inr (.inl h)
  · by_cases hb : b = a
    · exact .inl hb
    · rw [Ms.put_ne hb] at e
      exact .inr (.inr ⟨u, e⟩)
theorem vol_del {a b : Addr} (h : RD.vol (m.del a) b) : b ≠ a ∨ isDr m.d b := by
  rcases h with h | ⟨u, e⟩
  · exact .inr h
  · exact .inl fun q => by rw [q, Ms.del_same] at e; cases e
theorem vol_del' {a b : Addr} (h : RD.vol (m.del a) b) : RD.vol m b := by
  rcases h with h | ⟨u, e⟩
  · exact .inl h
  · by_cases hb : b = a
    · rw [hb, Ms.del_same] at e; cases e
    · rw [Ms.del_ne hb] at e
      exact .inr ⟨u, e⟩
/-- a loose thing becomes a cell -/
theorem Rel.cell (I : Rel K RD z ρ m σ H F) {a : Addr} {c : Cell} (L : Loose K RD z ρ m σ H F a) (hc : CellOk K F H a c) : Rel K RD z ρ (m.put a c) σ H F := by
  have nd : ¬ isDr m.d a := fun q => L.vol (.inl q)
  have ap : ∀ b, isDr m.d b → (m.put a c).μ b = none := fun b q => by
    have nb : b ≠ a := fun z => nd (z ▸ q)
    rw [Ms.put_ne nb]
    exact I.res.ap b q
  have cl : ∀ b u, (m.put a c).μ b = some u → CellOk K F H b u := fun b u e => by
    by_cases hb : b = a
    · subst hb
      rw [Ms.put_same] at e
      cases e
      exact hc
    · rw [Ms.put_ne hb] at e
      exact I.res.cell b u e
  refine ⟨⟨I.sub, ⟨I.res.dr, ap, cl⟩, fun b hb => ?_, I.fr, fun b hb => ?_, I.zH, I.fz⟩, I.len, I.var, I.apart, fun b i xs hb e q => ?_⟩
  · rcases vol_put hb with e | h
    · rw [e]; exact L.fF
    · exact I.vF b h
  · rcases vol_put hb with e | h
    · rw [e]; exact .inr L.zH
    · exact I.vz b h
  · rcases vol_put hb with e' | h
    · rw [e'] at q; exact L.own i xs e q
    · exact I.vO b i xs h e q
/-- a cell's thing is changed -/
theorem Rel.cellSet (I : Rel K RD z ρ m σ H F) {a : Addr} {c c' : Cell} {o : HO} (hm : m.μ a = some c) (hc : CellOk K F (upd H a o) a c') : Rel K RD z ρ (m.put a c') σ (upd H a o) F := by
  have va : RD.vol m a := .inr ⟨c, hm⟩
  have nd : ¬ isDr m.d a := fun q => by rw [I.res.ap a q] at hm; cases hm
  have fa : F a = none := I.vF a va
  have k : ∀ b u, b ≠ a → H b = some u → upd H a o b = some u := fun b u ne q => by rw [upd_ne ne]; exact q
  have ap : ∀ b, isDr m.d b → (m.put a c').μ b = none := fun b q => by
    have nb : b ≠ a := fun z => nd (z ▸ q)
    rw [Ms.put_ne nb]
    exact I.res.ap b q
  have cl : ∀ b u, (m.put a c').μ b = some u → CellOk K F (upd H a o) b u := fun b u e => by
    by_cases hb : b = a
    · subst hb
      rw [Ms.put_same] at e
      cases e
      exact hc
    · rw [Ms.put_ne hb] at e
      exact (I.res.cell b u e).up (Same.refl F) fun u q => k b u hb q
  have vp : ∀ b, RD.vol (m.put a c') b → RD.vol m b := fun b h => by
    rcases vol_put h with e | h
    · rw [e]; exact va
    · exact h
  refine ⟨⟨fun b u q => k b u (ne_of_none q fa) (I.sub b u q), ⟨I.res.dr.ext fun b u q e => k b u (fun z => nd (z ▸ q)) e, ap, cl⟩, fun b hb => I.vF b (vp b hb), fun b u q nv => ?_, fun b hb => I.vz b (vp b hb), fun b u q => ?_, I.fz⟩, I.len, fun j u he => ?_, I.apart, fun b i xs hb => I.vO b i xs (vp b hb)⟩
  · have nb : b ≠ a := fun e => by
      rcases I.vz a va with h | h
      · exact nv (e ▸ h)
      · rw [e, h] at q; cases q
    exact ⟨k b u nb (I.fr b u q nv).1, (I.fr b u q nv).2⟩
  · obtain ⟨o', e⟩ := I.zH b u q
    by_cases hb : b = a
    · exact ⟨_, by rw [hb]; exact upd_same⟩
    · exact ⟨o', k b o' hb e⟩
  · obtain ⟨v, q1, q2⟩ := I.var j u he
    refine ⟨v, q1, q2.up (Same.refl F) fun b xs' e0 ho e1 e2 _ => ⟨k b _ (fun q => ?_) e1, e2⟩⟩
    obtain ⟨zs, rfl⟩ := ho
    exact I.vO a j zs va he (by rw [q1, e0, q])
theorem Mv.cellSet {a : Addr} {c c' : Cell} {o : HO} (hm : m.μ a = some c) : Mv RD ρ m σ H F ρ (m.put a c') σ (upd H a o) F := by
  have va : RD.vol m a := .inr ⟨c, hm⟩
  refine ⟨Same.refl F, fun b u q => ?_, fun b u q n => ?_⟩
  · by_cases hb : b = a
    · exact ⟨_, by rw [hb]; exact upd_same⟩
    · exact ⟨u, by rw [upd_ne hb]; exact q⟩
  · have nb : b ≠ a := fun e => n.1 (e ▸ va)
    refine ⟨by rw [upd_ne nb]; exact q, rfl, fun h => ?_, n.2⟩
    rcases vol_put h with e | h
    · exact nb e
    · exact n.1 h
/-- a cell's list becomes data -/
theorem Rel.cellIce (I : Rel K RD z ρ m σ H F) {a : Addr} {xs : List D} (hm : m.μ a = some (.lst xs)) : ∃ F', Rel K RD z ρ (m.del a) σ H F' ∧ Mv RD ρ m σ H F ρ (m.del a) σ H F' ∧ Dr K F' (.ref a) (.lst xs) := by
  have va : RD.vol m a := .inr ⟨_, hm⟩
  have fa : F a = none := I.vF a va
  obtain ⟨vs, hH, r⟩ := I.res.cell a _ hm
  have s : Same F (upd F a (.lst vs)) := fun b u e => by rw [upd_ne (ne_of_none e fa)]; exact e
  have ap : ∀ b, isDr m.d b → (m.del a).μ b = none := fun b q => by
    by_cases hb : b = a
    · rw [hb]; exact Ms.del_same
    · rw [Ms.del_ne hb]; exact I.res.ap b q
  have cl : ∀ b u, (m.del a).μ b = some u → CellOk K (upd F a (.lst vs)) H b u := fun b u e => by
    by_cases hb : b = a
    · rw [hb, Ms.del_same] at e; cases e
    · rw [Ms.del_ne hb] at e
      exact (I.res.cell b u e).up s fun _ q => q
  have nvd : ∀ b, RD.vol (m.del a) b → b ≠ a := fun b h => by
    rcases vol_del h with q | q
    · exact q
    · intro e
      rw [e] at q
      rw [I.res.ap a q] at hm
      cases hm
  refine ⟨upd F a (.lst vs), ⟨⟨fun b u e => ?_, ⟨I.res.dr, ap, cl⟩, fun b hb => ?_, fun b u q nv => ?_, fun b hb => I.vz b (vol_del' hb), I.zH, I.fz.trans s⟩, I.len, fun j u he => ?_, I.apart, fun b i ys hb => I.vO b i ys (vol_del' hb)⟩, ⟨s, fun b u q => ⟨u, q⟩, fun b u q n => ⟨q, ?_, fun h => n.1 (vol_del' h), n.2⟩⟩, .lst (SqL.of upd_same) (r.up s)⟩
  · by_cases hb : b = a
    · subst hb; rw [upd_same] at e; cases e; exact hH
    · rw [upd_ne hb] at e; exact I.sub b u e
  · rw [upd_ne (nvd b hb)]; exact I.vF b (vol_del' hb)
  · have nb : b ≠ a := fun e => by
      rcases I.vz a va with h | h
      · exact nv (e ▸ h)
      · rw [e, h] at q; cases q
    rw [upd_ne nb]
    exact I.fr b u q nv
  · obtain ⟨v, q1, q2⟩ := I.var j u he
    refine ⟨v, q1, q2.up s fun b xs' e0 ho e1 e2 _ => ⟨e1, ?_⟩⟩
    obtain ⟨zs, rfl⟩ := ho
    have nb : b ≠ a := fun q => I.vO a j zs va he (by rw [q1, e0, q])
    rw [upd_ne nb]; exact e2
  · have nb : b ≠ a := fun e => n.1 (e ▸ va)
    rw [upd_ne nb]
end

/-! ### what is deep in cells becomes data -/
mutual
inductive Res : Ms → D → D → Ms → Prop
  | cell {m m' : Ms} {a : Addr} {xs ys : List D} : m.μ a = some (.lst xs) → ResAll (m.del a) xs ys m' → Res m (.raw (.ref a)) (.lst ys) m'
  | lst {m m' : Ms} {xs ys : List D} : ResAll m xs ys m' → Res m (.lst xs) (.lst ys) m'
  | tup {m m' : Ms} {xs ys : List D} : ResAll m xs ys m' → Res m (.tup xs) (.tup ys) m'
  | same {m : Ms} {d : D} : Res m d d m
inductive ResAll : Ms → List D → List D → Ms → Prop
  | nil {m : Ms} : ResAll m [] [] m
  | cons {m m1 m2 : Ms} {d d' : D} {ds ds' : List D} : Res m d d' m1 → ResAll m1 ds ds' m2 → ResAll m (d :: ds) (d' :: ds') m2
end
section
variable {K : PySem.W.Frag} {z : Z0 RD} {ρ : List En} {σ : L2.St} {H : Hp}
mutual
theorem Res.ok : ∀ {m m' : Ms} {d d' : D} {F : Hp} {v : V}, Res m d d' m' → Rel K RD z ρ m σ H F → Dr K F v d → ∃ F', Rel K RD z ρ m' σ H F' ∧ Mv RD ρ m σ H F ρ m' σ H F' ∧ Dr K F' v d'
  | _, _, _, _, F, _, .same, I, r => ⟨F, I, Mv.refl, r⟩
  | _, _, _, _, F, _, .lst h, I, r => by
    cases r with
    | lst hl ra =>
      obtain ⟨F', I', mv, ra'⟩ := ResAll.ok h I ra
      exact ⟨F', I', mv, .lst (mv.same.seq hl) ra'⟩
  | _, _, _, _, F, _, .tup h, I, r => by
    cases r with
    | tup hl ra =>
      obtain ⟨F', I', mv, ra'⟩ := ResAll.ok h I ra
      exact ⟨F', I', mv, .tup (Same.sqT mv.same hl) ra'⟩
  | _, _, _, _, F, _, .cell hm h, I, r => by
    cases r
    obtain ⟨F1, I1, mv1, r1⟩ := I.cellIce hm
    cases r1 with
    | lst hl ra =>
      obtain ⟨F', I', mv, ra'⟩ := ResAll.ok h I1 ra
      exact ⟨F', I', mv1.trans mv, .lst (mv.same.seq hl) ra'⟩
theorem ResAll.ok : ∀ {m m' : Ms} {ds ds' : List D} {F : Hp} {vs : List V}, ResAll m ds ds' m' → Rel K RD z ρ m σ H F → DrAll K F vs ds → ∃ F', Rel K RD z ρ m' σ H F' ∧ Mv RD ρ m σ H F ρ m' σ H F' ∧ DrAll K F' vs ds'
  | _, _, _, _, F, _, .nil, I, r => ⟨F, I, Mv.refl, r⟩
  | _, _, _, _, F, _, .cons h1 h2, I, r => by
    cases r with
    | cons r1 r2 =>
      obtain ⟨F1, I1, mv1, r1'⟩ := Res.ok h1 I r1
      obtain ⟨F2, I2, mv2, r2'⟩ := ResAll.ok h2 I1 (r2.up mv1.same)
      exact ⟨F2, I2, mv1.trans mv2, .cons (r1'.up mv2.same) r2'⟩
end
end
section
variable {X : Cx} {W : WX} {e : Expr} {es : List Expr} {pos : Pos} {te tk to : TD RD} {tl : TL RD}
/-- what stands in cells becomes data -/
def eRes (t : TD RD) : TD RD := fun Z ρ m Q => t Z ρ m fun d ρ1 m1 => d.firm ∧ ∃ d' m2, Res m1 d d' m2 ∧ Q d' ρ1 m2
theorem de_res (h : DE X W RD e te) : DE X W RD e (eRes te) := by
  obtain ⟨_, p1, s1⟩ := h
  refine ⟨_, p1, fun z Z ρ m σ H F Q Qh hz I h q => ?_⟩
  refine s1 z Z ρ m σ H F _ _ hz I h fun v H1 F1 ρ1 m1 d I1 f1 r1 h1 => ?_
  obtain ⟨fm, d', m2, hr, hq⟩ := h1
  obtain ⟨F2, I2, mv, r2⟩ := hr.ok I1 (r1.dr fm)
  exact q v H1 F2 ρ1 m2 d' I2 (f1.trans mv) r2.dv hq
/-- a new list becomes a cell -/
def eNew (t : TL RD) : TD RD := fun Z ρ m Q => t Z ρ m fun xs ρ1 m1 => ∀ a, m1.μ a = none → ¬ isDr m1.d a → Q (.raw (.ref a)) ρ1 (Ms.put m1 a (.lst xs))
theorem DO.cell (h : DO X W RD e tl) : DE X W RD e (eNew tl) := by
  obtain ⟨_, p1, s1⟩ := h
  refine ⟨_, p1, fun z Z ρ m σ H F Q Qh hz I h q => ?_⟩
  refine s1 z Z ρ m σ H F _ _ hz I h fun a xs ds H' F' ρ' m' I' mv hN L hH r hq => ?_
  refine q (.ref a) H' F' ρ' (Ms.put m' a (.lst ds)) (.raw (.ref a)) (I'.cell L ⟨xs, hH, r⟩) ⟨mv.same, mv.live, fun b o e n => ?_⟩ (Dr.dv (.raw _)) (hq a (none_of_not_vol L.vol) fun z => L.vol (.inl z))
  obtain ⟨e1, f1, n1⟩ := mv.kp b o e n
  refine ⟨e1, f1, fun h => ?_, n1.2⟩
  rcases vol_put h with e' | h
  · rw [e', hN] at e; cases e
  · exact n1.1 h
/-- x[k] = e, x a cell -/
def sPutC (to tk t : TD RD) : TSd RD := fun G ρ m => t G.rz ρ m fun d ρ1 m1 => d.firm ∧ to G.rz ρ1 m1 fun o ρ2 m2 => tk G.rz ρ2 m2 fun k ρ3 m3 => match o, k with
  | .raw (.ref a), .int k => ∃ xs j, m3.μ a = some (.lst xs) ∧ ixN xs.length k = some j ∧ G.nx ρ3 (Ms.put m3 a (.lst (xs.set j d)))
  | _, _ => False
theorem ds_putC {o k : Expr} {spos : Pos} (ho : DE X W RD o to) (hk : DE X W RD k tk) (he : DE X W RD e te)
    (ha : ∀ {t1 t2 : TE}, PE X o t1 → PE X k t2 → PG X (.Subscript o k spos) (gSub t1 t2 rSetL) := by exact fun h1 h2 => pg_sub h1 h2 set_list)
    (hs : swapsWithSole [.Subscript o k spos] e pos.line X.env = pure false := by rfl) (hw : swappedStores [.Subscript o k spos] e X.env = pure none := by rfl) (h1 : (assignEach [.Subscript o k spos] X.env).map (·.2) = [assign (.Subscript o k spos) X.env] := by rfl) : DS X W RD (.Assign [.Subscript o k spos] e pos) (sPutC to tk te) := by
  obtain ⟨_, p1, s1⟩ := he
  obtain ⟨_, p2, s2⟩ := hk
  obtain ⟨_, p3, s3⟩ := ho
  refine ⟨_, ps_asg p1 (ha p3 p2) hs hw h1, fun z ρ m σ H F D Dh M I h => ?_⟩
  refine s1 z D.rz ρ m σ H F _ _ M.rz I h fun v H1 F1 ρ1 m1 d I1 f1 r1 h1 => ?_
  obtain ⟨fm, h1⟩ := h1
  have rd := r1.dr fm
  refine s3 z D.rz ρ1 m1 σ H1 F1 _ _ M.rz I1 h1 fun x H2 F2 ρ2 m2 dx I2 f2 r2 h2 => ?_
  refine s2 z D.rz ρ2 m2 σ H2 F2 _ _ M.rz I2 h2 fun u H3 F3 ρ3 m3 dk I3 f3 r3 h3 => ?_
  split at h3
  · rename_i a kk
    obtain ⟨xs, j, hm, hj, hn⟩ := h3
    obtain rfl := r2.raw
    obtain rfl := r3.int
    obtain ⟨vs, hH, ra⟩ := I3.res.cell a _ hm
    have rd3 := (rd.up f2.same).up f3.same
    exact ⟨a, vs, kk, j, rfl, rfl, hH, by rw [ra.length]; exact hj, M.nx ρ3 _ σ _ F3 (I3.cellSet (c' := .lst (xs.set j d)) hm ⟨_, upd_same, ra.set rd3 j⟩) ((f1.same.trans f2.same).trans f3.same) hn⟩
  · exact h3.elim
/-- x.m(..), x a cell, m a method of lists -/
def eCellM (to : TD RD) (t : TL RD) (f : List D → List D → (D → List D → Prop) → Prop) : TD RD := fun Z ρ m Q => to Z ρ m fun o ρ1 m1 => match o with
  | .raw (.ref a) => (∃ xs, m1.μ a = some (.lst xs)) ∧ t Z ρ1 m1 fun ds ρ2 m2 => Firms ds ∧ ∃ xs, m2.μ a = some (.lst xs) ∧ f xs ds fun d ys => Q d ρ2 (Ms.put m2 a (.lst ys))
  | _ => False
theorem de_cellM {o : Expr} {id : String} {name : Str} {apos : Pos} {r : V → List V → Hp → VK → Prop} {f : List D → List D → (D → List D → Prop) → Prop} (slot : Slot "list" name id) (hty : typeOf (.builtin id) = pure (.type "method_descriptor")) (hm : MtR X id r)
    (L : ∀ (F H : Hp) (a : Addr) (vs : List V) (xs : List V) (ds : List D) (es : List D) (Q : D → List D → Prop) (Qh : VK), H a = some (.lst xs) → DrAll X.K F xs ds → DrAll X.K F vs es → f ds es Q → (∀ v d ys gs, Dr X.K F v d → DrAll X.K F ys gs → Q d gs → Qh v (upd H a (.lst ys))) → r (.ref a) vs H Qh)
    (ho : DE X W RD o to) (ha : DA X W RD (e :: es) tl) (hbase : attributeBase o name X.env (eval o X.env) = eval o X.env := by rfl)
    (hfew : ((backTo pos (starEach (e :: es) X.env)).all (fun x => !x.1) && (backToKw pos (keywordEach [] X.env)).all (fun x => x.1.isSome)
      && decide ((e :: es).length + ([] : List Keyword).length + (if ([] : List Keyword).isEmpty then 0 else 1) < 30)) = true := by rfl)
    (hline : (apos.endLine == pos.line) = true := by rfl) (hs : starEach (e :: es) X.env = (false, eval e X.env) :: starEach es X.env := by rfl) (hplain : (backTo pos (starEach es X.env)).any (·.1) = false := by rfl) :
    DE X W RD (.Call (.Attribute o name apos) (e :: es) [] pos) (eCellM to tl f) := by
  obtain ⟨_, p1, s1⟩ := ha
  obtain ⟨_, p0, s0⟩ := ho
  refine ⟨_, pe_bm F.plainAttrs_list slot hty hm p0 p1 hbase hfew hline hs hplain, fun z Z ρ m σ H F Q Qh hz I h q => ?_⟩
  refine s0 z Z ρ m σ H F _ _ hz I h fun x H0 F0 ρ0 m0 dx I0 f0 r0 h0 => ?_
  cases dx <;> first | exact h0.elim | skip
  rename_i xv
  obtain rfl := r0.raw
  cases x <;> first | exact h0.elim | skip
  rename_i a
  obtain ⟨⟨xs0, e0⟩, h0⟩ := h0
  obtain ⟨vs0, hH0, _⟩ := I0.res.cell a _ e0
  refine ⟨.inl ⟨rfl, _, SqL.of hH0⟩, ?_⟩
  refine s1 z Z ρ0 m0 σ H0 F0 _ _ hz I0 h0 fun vs H1 F1 ρ1 m1 ds I1 f1 r1 _ h1 => ?_
  obtain ⟨fm, xs, e1, h1⟩ := h1
  obtain ⟨us, hH, ra⟩ := I1.res.cell a _ e1
  refine L F1 H1 a vs us xs ds _ _ hH ra (r1.dr fm) h1 fun v d ys gs rd rg hq => ?_
  exact q v _ F1 ρ1 _ d (I1.cellSet (c' := .lst gs) e1 ⟨ys, upd_same, rg⟩) ((f0.trans f1).trans (Mv.cellSet e1)) rd.dv hq
theorem link_append {K : PySem.W.Frag} : ∀ (F H : Hp) (a : Addr) (vs : List V) (xs : List V) (ds : List D) (es : List D) (Q : D → List D → Prop) (Qh : VK), H a = some (.lst xs) → DrAll K F xs ds → DrAll K F vs es → fAppend ds es Q → (∀ v d ys gs, Dr K F v d → DrAll K F ys gs → Q d gs → Qh v (upd H a (.lst ys))) → rAppend (.ref a) vs H Qh := fun F H a vs xs ds es Q Qh hH r rs h0 q => by
  unfold fAppend at h0
  split at h0
  · cases rs with
    | cons rd rn =>
      cases rn
      exact ⟨a, xs, _, rfl, rfl, hH, by rw [r.length]; exact h0.1, q _ _ _ _ .non (r.append (.cons rd .nil)) h0.2⟩
  · exact h0.elim
theorem de_appendC {o : Expr} {apos : Pos} (ho : DE X W RD o to) (ha : DA X W RD [e] tl) (hbase : attributeBase o "append" X.env (eval o X.env) = eval o X.env := by rfl)
    (hfew : ((backTo pos (starEach [e] X.env)).all (fun x => !x.1) && (backToKw pos (keywordEach [] X.env)).all (fun x => x.1.isSome) && decide ([e].length + ([] : List Keyword).length + (if ([] : List Keyword).isEmpty then 0 else 1) < 30)) = true := by rfl)
    (hline : (apos.endLine == pos.line) = true := by rfl) (hs : starEach [e] X.env = (false, eval e X.env) :: starEach [] X.env := by rfl) (hplain : (backTo pos (starEach [] X.env)).any (·.1) = false := by rfl) :
    DE X W RD (.Call (.Attribute o "append" apos) [e] [] pos) (eCellM to tl fAppend) :=
  de_cellM F.slot_list_append F.type_list_append mt_append link_append ho ha hbase hfew hline hs hplain
end
end DL

/-! Data layer: laws of the readings; numbers modulo p; encodings. -/
namespace DL
open PySem L2
/-! ### comprehensions -/
inductive All2 {α β : Type} (r : α → β → Prop) : List α → List β → Prop
  | nil : All2 r [] []
  | cons {a : α} {b : β} {as : List α} {bs : List β} : r a b → All2 r as bs → All2 r (a :: as) (b :: bs)
theorem All2.length {α β : Type} {r : α → β → Prop} : ∀ {as : List α} {bs : List β}, All2 r as bs → as.length = bs.length
  | _, _, .nil => rfl
  | _, _, .cons _ t => by rw [List.length_cons, List.length_cons, All2.length t]
theorem All2.map {α β γ : Type} {r : α → β → Prop} {f : γ → α} : ∀ {cs : List γ} {bs : List β}, All2 r (cs.map f) bs → All2 (fun c b => r (f c) b) cs bs
  | [], _, h => by cases h; exact .nil
  | c :: cs, _, h => by
    cases h with
    | cons h1 h2 => exact .cons h1 (All2.map h2)
theorem All2.eq_map {α β : Type} {f : α → β} : ∀ {as : List α} {bs : List β}, All2 (fun a b => b = f a) as bs → bs = as.map f
  | _, _, .nil => rfl
  | _, _, .cons h t => by rw [List.map_cons, ← All2.eq_map t, h]
theorem All2.imp {α β : Type} {r s : α → β → Prop} (h : ∀ a b, r a b → s a b) : ∀ {as : List α} {bs : List β}, All2 r as bs → All2 s as bs
  | _, _, .nil => .nil
  | _, _, .cons a t => .cons (h _ _ a) (All2.imp h t)
/-- bs are codes of values that satisfy P -/
theorem All2.choose {α β γ : Type} {f : γ → β} {P : α → γ → Prop} : ∀ {as : List α} {bs : List β}, All2 (fun a b => ∃ c, b = f c ∧ P a c) as bs → ∃ cs : List γ, bs = cs.map f ∧ All2 P as cs
  | _, _, .nil => ⟨[], rfl, .nil⟩
  | _, _, .cons ⟨c, e, h⟩ t => by
    obtain ⟨cs, e2, h2⟩ := All2.choose t
    exact ⟨c :: cs, by rw [List.map_cons, e, e2], .cons h h2⟩
theorem All2.right {α β : Type} {r : α → β → Prop} {P : β → Prop} (h : ∀ a b, r a b → P b) : ∀ {as : List α} {bs : List β}, All2 r as bs → ∀ b ∈ bs, P b
  | _, _, .nil, _, hb => by cases hb
  | _, _, .cons a t, b, hb => by
    rcases List.mem_cons.mp hb with e | hb
    · rw [e]; exact h _ _ a
    · exact All2.right h t b hb
section
variable {R : Rs} {g : TGd R} {e : TD R} {vs : List Nat} {Q : KL R} {ρ : List En} {m : R.M}
theorem lcD_rel (r : D → D → Prop) : ∀ (ds acc : List D), (∀ d ∈ ds, ∀ P : KD R, (∀ y ρ', r d y → wipeE ρ' vs = ρ → P y ρ' m) → g d ρ m fun ρ2 m2 => e zF ρ2 m2 P) → (∀ d y, r d y → y.firm) → acc.length + ds.length ≤ sizeLine →
    (∀ ys, All2 r ds ys → Q (acc ++ ys) ρ m) → lcD g bYes e vs Q ds acc ρ m
  | [], acc, _, _, _, hq => by
    have := hq [] .nil
    rw [List.append_nil] at this
    exact this
  | d :: ds, acc, h, hf, hl, hq => by
    rw [List.length_cons] at hl
    have h1 := h d (List.mem_cons_self ..) (fun y ρ4 m4 => y.firm ∧ acc.length < sizeLine ∧ lcD g bYes e vs Q ds (acc ++ [y]) (wipeE ρ4 vs) m4) fun y ρ' hr hw => by
      refine ⟨hf d y hr, by omega, ?_⟩
      rw [hw]
      exact lcD_rel r ds (acc ++ [y]) (fun d hd => h d (List.mem_cons_of_mem _ hd)) hf (by rw [List.length_append, List.length_singleton]; omega) fun ys hy => by
        rw [List.append_assoc]
        exact hq (y :: ys) (.cons hr hy)
    have key : ∀ (A : List En → R.M → Prop), (∀ ρ2 m2, A ρ2 m2 → (fun ρ2 m2 => bYes zF ρ2 m2 fun b ρ3 m3 => (b = true → e zF ρ3 m3 fun y ρ4 m4 => y.firm ∧ acc.length < sizeLine ∧ lcD g bYes e vs Q ds (acc ++ [y]) (wipeE ρ4 vs) m4) ∧ (b = false → lcD g bYes e vs Q ds acc (wipeE ρ3 vs) m3)) ρ2 m2) → True := fun _ _ => trivial
    show g d ρ m _
    have e1 : (fun (ρ2 : List En) (m2 : R.M) => bYes zF ρ2 m2 fun b ρ3 m3 => (b = true → e zF ρ3 m3 fun y ρ4 m4 => y.firm ∧ acc.length < sizeLine ∧ lcD g bYes e vs Q ds (acc ++ [y]) (wipeE ρ4 vs) m4) ∧ (b = false → lcD g bYes e vs Q ds acc (wipeE ρ3 vs) m3)) = fun ρ2 m2 => e zF ρ2 m2 fun y ρ4 m4 => y.firm ∧ acc.length < sizeLine ∧ lcD g bYes e vs Q ds (acc ++ [y]) (wipeE ρ4 vs) m4 := by
      funext ρ2 m2
      apply propext
      constructor
      · intro h; exact h.1 rfl
      · intro h; exact ⟨fun _ => h, fun q => by cases q⟩
    rw [e1]
    exact h1
theorem lcD_map (f : D → D) (ds acc : List D) (h : ∀ d ∈ ds, ∀ P : KD R, (∀ ρ', wipeE ρ' vs = ρ → P (f d) ρ' m) → g d ρ m fun ρ2 m2 => e zF ρ2 m2 P) (hf : ∀ d, (f d).firm) (hl : acc.length + ds.length ≤ sizeLine) (hq : Q (acc ++ ds.map f) ρ m) : lcD g bYes e vs Q ds acc ρ m :=
  lcD_rel (fun d y => y = f d) ds acc (fun d hd P hP => h d hd P fun ρ' hw => hP _ ρ' rfl hw) (fun d y hy => by rw [hy]; exact hf d) hl fun ys hy => by rw [hy.eq_map]; exact hq
end
/-- a comprehension with a test of the item alone -/
theorem lcD_filter {R : Rs} {g : TGd R} {t : TB R} {e : TD R} {vs : List Nat} {Q : KL R} {ρ : List En} {m : R.M} (p : D → Bool) (f : D → D) : ∀ (ds acc : List D),
    (∀ d ∈ ds, ∀ P : KB R, (∀ ρ', (p d = true → ∀ P2 : KD R, (∀ ρ'', wipeE ρ'' vs = ρ → P2 (f d) ρ'' m) → e zF ρ' m P2) → wipeE ρ' vs = ρ → P (p d) ρ' m) → g d ρ m fun ρ2 m2 => t zF ρ2 m2 P) →
    (∀ d, (f d).firm) → acc.length + ds.length ≤ sizeLine → Q (acc ++ (ds.filter p).map f) ρ m → lcD g t e vs Q ds acc ρ m
  | [], acc, _, _, _, hq => by
    rw [List.filter_nil, List.map_nil, List.append_nil] at hq
    exact hq
  | d :: ds, acc, h, hf, hl, hq => by
    rw [List.length_cons] at hl
    refine h d (List.mem_cons_self ..) _ fun ρ' he hw => ⟨fun hb => he hb _ fun ρ'' hw2 => ⟨hf d, by omega, ?_⟩, fun hb => ?_⟩
    · rw [hw2]
      refine lcD_filter p f ds (acc ++ [f d]) (fun d hd => h d (List.mem_cons_of_mem _ hd)) hf (by rw [List.length_append, List.length_singleton]; omega) ?_
      rw [List.filter_cons_of_pos hb, List.map_cons] at hq
      rw [List.append_assoc]
      exact hq
    · rw [hw]
      refine lcD_filter p f ds acc (fun d hd => h d (List.mem_cons_of_mem _ hd)) hf (by omega) ?_
      rw [List.filter_cons_of_neg (by rw [hb]; decide)] at hq
      exact hq

/-! ### numbers modulo p -/
def Eqm (p a b : Int) : Prop := a % p = b % p
theorem Eqm.add {p a b c d : Int} (h : Eqm p a b) (k : Eqm p c d) : Eqm p (a + c) (b + d) := by
  unfold Eqm at *
  rw [Int.add_emod, h, k, ← Int.add_emod]
theorem Eqm.mul {p a b c d : Int} (h : Eqm p a b) (k : Eqm p c d) : Eqm p (a * c) (b * d) := by
  unfold Eqm at *
  rw [Int.mul_emod, h, k, ← Int.mul_emod]
theorem Eqm.sub {p a b c d : Int} (h : Eqm p a b) (k : Eqm p c d) : Eqm p (a - c) (b - d) := by
  unfold Eqm at *
  rw [Int.sub_emod, h, k, ← Int.sub_emod]
theorem Eqm.mod {p a : Int} : Eqm p (a % p) a := Int.emod_emod_of_dvd a (Int.dvd_refl p)
theorem Eqm.rfl {p a : Int} : Eqm p a a := Eq.refl _
theorem Eqm.of {p a b : Int} (h : a = b) : Eqm p a b := by rw [h]; exact Eq.refl _
theorem Eqm.symm {p a b : Int} (h : Eqm p a b) : Eqm p b a := Eq.symm h
theorem Eqm.trans {p a b c : Int} (h : Eqm p a b) (k : Eqm p b c) : Eqm p a c := Eq.trans h k
theorem Eqm.pow {p a b : Int} (h : Eqm p a b) : ∀ n : Nat, Eqm p (a ^ n) (b ^ n)
  | 0 => Eqm.of (by rw [Int.pow_zero, Int.pow_zero])
  | n + 1 => by rw [Int.pow_succ, Int.pow_succ]; exact (Eqm.pow h n).mul h

/-! ### encodings -/
abbrev eI (l : List Int) : D := .lst (l.map .int)
abbrev eII (l : List (List Int)) : D := .lst (l.map eI)
theorem pls_all : ∀ {ds : List D}, (∀ d ∈ ds, d.pl = true) → pls ds = true
  | [], _ => rfl
  | d :: ds, h => by
    show (d.pl && pls ds) = true
    rw [h d (List.mem_cons_self ..), pls_all fun e he => h e (List.mem_cons_of_mem _ he)]
    rfl
theorem pl_eI (l : List Int) : (eI l).pl = true := pls_all fun d hd => by
  obtain ⟨n, _, rfl⟩ := List.mem_map.mp hd
  rfl
theorem pl_eII (l : List (List Int)) : (eII l).pl = true := pls_all fun d hd => by
  obtain ⟨n, _, rfl⟩ := List.mem_map.mp hd
  exact pl_eI n
theorem depthAll_le {n : Nat} : ∀ {ps : List PyData}, (∀ d ∈ ps, d.depth ≤ n) → PyData.depthAll ps ≤ n
  | [], _ => by simp [PyData.depthAll]
  | d :: ps, h => by
    rw [PyData.depthAll]
    exact Nat.max_le.mpr ⟨h d (List.mem_cons_self ..), depthAll_le fun e he => h e (List.mem_cons_of_mem _ he)⟩
theorem canLayAll : ∀ {ps : List PyData}, (∀ d ∈ ps, d.canLay0 = true) → PyData.canLayAll0 ps = true
  | [], _ => by simp [PyData.canLayAll0]
  | d :: ps, h => by
    rw [PyData.canLayAll0, h d (List.mem_cons_self ..), canLayAll fun e he => h e (List.mem_cons_of_mem _ he)]
    rfl
theorem toP_lst (xs : List D) : (D.lst xs).toP = .list (xs.map D.toP) := by rw [D.toP, toPs_map]
theorem toP_tup (xs : List D) : (D.tup xs).toP = .tuple (xs.map D.toP) := by rw [D.toP, toPs_map]
theorem toP_eI (l : List Int) : (eI l).toP = .list (l.map .int) := by
  rw [toP_lst, List.map_map]
  rfl
theorem toP_eII (l : List (List Int)) : (eII l).toP = .list (l.map fun r => .list (r.map .int)) := by
  rw [toP_lst, List.map_map]
  congr 1
  apply List.map_congr_left
  intro r _
  exact toP_eI r
theorem depth_list {n : Nat} {ps : List PyData} (h : ∀ d ∈ ps, d.depth ≤ n) : (PyData.list ps).depth ≤ n + 1 := by
  rw [PyData.depth]
  exact Nat.succ_le_succ (depthAll_le h)
theorem depth_int (i : Int) : (PyData.int i).depth = 0 := by rw [PyData.depth]
theorem depth_eI (l : List Int) : (eI l).toP.depth ≤ 1 := by
  rw [toP_eI]
  exact depth_list fun d hd => by
    obtain ⟨n, _, rfl⟩ := List.mem_map.mp hd
    rw [depth_int]
    exact Nat.le_refl 0
theorem depth_eII (l : List (List Int)) : (eII l).toP.depth ≤ 2 := by
  rw [toP_lst]
  exact depth_list fun d hd => by
    obtain ⟨x, hx, rfl⟩ := List.mem_map.mp hd
    obtain ⟨r, _, rfl⟩ := List.mem_map.mp hx
    exact depth_eI r
theorem lay_list {ps : List PyData} (h : ∀ d ∈ ps, d.canLay0 = true) : (PyData.list ps).canLay0 = true := by
  rw [PyData.canLay0]
  exact canLayAll h
theorem lay_eI (l : List Int) : (eI l).toP.canLay0 = true := by
  rw [toP_eI]
  exact lay_list fun d hd => by
    obtain ⟨n, _, rfl⟩ := List.mem_map.mp hd
    rw [PyData.canLay0]
theorem lay_eII (l : List (List Int)) : (eII l).toP.canLay0 = true := by
  rw [toP_lst]
  exact lay_list fun d hd => by
    obtain ⟨x, hx, rfl⟩ := List.mem_map.mp hd
    obtain ⟨r, _, rfl⟩ := List.mem_map.mp hx
    exact lay_eI r
theorem shaped_of {d : PyData} (h1 : d.canLay0 = true) (h2 : d.depth ≤ 64) : SeqAt.shaped d = true := by
  unfold SeqAt.shaped
  rw [h1, decide_eq_true h2]
  rfl
theorem shaped_eI (l : List Int) : SeqAt.shaped (eI l).toP = true := shaped_of (lay_eI l) (Nat.le_trans (depth_eI l) (by decide))
theorem shaped_eII (l : List (List Int)) : SeqAt.shaped (eII l).toP = true := shaped_of (lay_eII l) (Nat.le_trans (depth_eII l) (by decide))
theorem eqvAll_map {α : Type} [DecidableEq α] {f : α → PyData} (h : ∀ a b, PyData.eqv (f a) (f b) = decide (a = b)) : ∀ xs ys : List α, PyData.eqvAll (xs.map f) (ys.map f) = decide (xs = ys)
  | [], [] => by simp [PyData.eqvAll]
  | [], _ :: _ => by simp [PyData.eqvAll]
  | _ :: _, [] => by simp [PyData.eqvAll]
  | x :: xs, y :: ys => by
    rw [List.map_cons, List.map_cons, PyData.eqvAll, h, eqvAll_map h xs ys, ← Bool.decide_and]
    congr 1
    simp
theorem eqv_list {xs ys : List PyData} : PyData.eqv (.list xs) (.list ys) = PyData.eqvAll xs ys := by rw [PyData.eqv]
theorem eqv_int (a b : Int) : PyData.eqv (.int a) (.int b) = decide (a = b) := by
  rw [PyData.eqv]
  exact Bool.beq_eq_decide_eq a b
theorem eqv_ints (a b : List Int) : PyData.eqv (.list (a.map .int)) (.list (b.map .int)) = decide (a = b) := by
  rw [eqv_list]
  exact eqvAll_map eqv_int a b
theorem eqv_eI (a b : List Int) : PyData.eqv (eI a).toP (eI b).toP = decide (a = b) := by
  rw [toP_eI, toP_eI, eqv_ints]
theorem eqv_eII (a b : List (List Int)) : PyData.eqv (eII a).toP (eII b).toP = decide (a = b) := by
  rw [toP_eII, toP_eII, eqv_list]
  exact eqvAll_map eqv_ints a b
/-- == of two lists of numbers, of two lists of rows -/
theorem eq_eI {w : Vw} {ρ : List En} {a b : List Int} {Q : Bool → Prop} (h : Q (decide (a = b))) : dEqB w ρ (eI a) (eI b) Q := by
  refine ⟨pl_eI a, pl_eI b, shaped_eI a, shaped_eI b, ?_⟩
  show Q (PyData.eqv (eI a).toP (eI b).toP)
  rw [eqv_eI]
  exact h
theorem eq_eII {w : Vw} {ρ : List En} {a b : List (List Int)} {Q : Bool → Prop} (h : Q (decide (a = b))) : dEqB w ρ (eII a) (eII b) Q := by
  refine ⟨pl_eII a, pl_eII b, shaped_eII a, shaped_eII b, ?_⟩
  show Q (PyData.eqv (eII a).toP (eII b).toP)
  rw [eqv_eII]
  exact h
/-- x in xs of rows -/
theorem in_eII {w : Vw} {ρ : List En} {a : List Int} {b : List (List Int)} {Q : Bool → Prop} (h : Q (decide (a ∈ b))) : dInB w ρ (eI a) (eII b) Q := by
  refine ⟨pl_eI a, pl_eII b, shaped_eI a, shaped_eII b, ?_⟩
  show Q ((toPs (b.map eI)).any fun d => PyData.eqv d (eI a).toP)
  have e : ((toPs (b.map eI)).any fun d => PyData.eqv d (eI a).toP) = decide (a ∈ b) := by
    rw [toPs_map, List.map_map, List.any_map]
    rw [Bool.eq_iff_iff, List.any_eq_true, decide_eq_true_eq]
    constructor
    · rintro ⟨r, hr, e⟩
      have e' : PyData.eqv (eI r).toP (eI a).toP = true := e
      rw [eqv_eI, decide_eq_true_eq] at e'
      exact e' ▸ hr
    · intro hr
      refine ⟨a, hr, ?_⟩
      show PyData.eqv (eI a).toP (eI a).toP = true
      rw [eqv_eI, decide_eq_true rfl]
  rw [e]
  exact h
/-- <= of rows -/
theorem le_eI {w : Vw} {ρ : List En} {a b : List Int} {Q : D → Prop} (h : Q (.bl (decide (a ≤ b)))) : dLeU w ρ (eI a) (eI b) Q := by
  refine ⟨pl_eI a, pl_eI b, ?_, ?_, Nat.le_trans (depth_eI a) (by decide), ?_⟩
  · show PySem.W.alike (eI a).toP (eI b).toP = true
    rw [toP_eI, toP_eI]
    simp only [PySem.W.alike]
    exact PySem.W.alike_ints a b
  · show (eI a).toP ≠ .none
    rw [toP_eI]
    exact fun q => nomatch q
  · show Q (.bl (!PySem.W.dataLt (eI b).toP (eI a).toP))
    have e : (!PySem.W.dataLt (eI b).toP (eI a).toP) = decide (a ≤ b) := by
      have := congrFun (congrFun (PySem.W.dataLe_rows (fun x : List Int => x)) a) b
      rw [PySem.W.dataLe_eq] at this
      rw [toP_eI, toP_eI]
      exact this
    rw [e]
    exact h
end DL

/-! Data layer: sorted rows, repr of rows, comprehensions over encoded lists. -/
namespace DL
open PySem L2
theorem dec2 {c A B : Prop} [Decidable c] (h1 : c → A) (h2 : ¬ c → B) : (decide c = true → A) ∧ (decide c = false → B) := ⟨fun h => h1 (of_decide_eq_true h), fun h => h2 (of_decide_eq_false h)⟩
section
variable {R : Rs} {g : TGd R} {e : TD R} {vs : List Nat} {Q : KL R} {ρ : List En} {m : R.M}
/-- a comprehension over an encoded list -/
theorem lcD_relT {α : Type} (enc : α → D) (r : α → D → Prop) : ∀ (l : List α) (acc : List D), (∀ a ∈ l, ∀ P : KD R, (∀ y ρ', r a y → wipeE ρ' vs = ρ → P y ρ' m) → g (enc a) ρ m fun ρ2 m2 => e zF ρ2 m2 P) → (∀ d y, r d y → y.firm) → acc.length + l.length ≤ sizeLine →
    (∀ ys, All2 r l ys → Q (acc ++ ys) ρ m) → lcD g bYes e vs Q (l.map enc) acc ρ m
  | [], acc, _, _, _, hq => by
    have := hq [] .nil
    rw [List.append_nil] at this
    exact this
  | d :: ds, acc, h, hf, hl, hq => by
    rw [List.length_cons] at hl
    have h1 := h d (List.mem_cons_self ..) (fun y ρ4 m4 => y.firm ∧ acc.length < sizeLine ∧ lcD g bYes e vs Q (ds.map enc) (acc ++ [y]) (wipeE ρ4 vs) m4) fun y ρ' hr hw => by
      refine ⟨hf d y hr, by omega, ?_⟩
      rw [hw]
      exact lcD_relT enc r ds (acc ++ [y]) (fun d hd => h d (List.mem_cons_of_mem _ hd)) hf (by rw [List.length_append, List.length_singleton]; omega) fun ys hy => by
        rw [List.append_assoc]
        exact hq (y :: ys) (.cons hr hy)
    show g (enc d) ρ m _
    have e1 : (fun (ρ2 : List En) (m2 : R.M) => bYes zF ρ2 m2 fun b ρ3 m3 => (b = true → e zF ρ3 m3 fun y ρ4 m4 => y.firm ∧ acc.length < sizeLine ∧ lcD g bYes e vs Q (ds.map enc) (acc ++ [y]) (wipeE ρ4 vs) m4) ∧ (b = false → lcD g bYes e vs Q (ds.map enc) acc (wipeE ρ3 vs) m3)) = fun ρ2 m2 => e zF ρ2 m2 fun y ρ4 m4 => y.firm ∧ acc.length < sizeLine ∧ lcD g bYes e vs Q (ds.map enc) (acc ++ [y]) (wipeE ρ4 vs) m4 := by
      funext ρ2 m2
      apply propext
      constructor
      · intro h; exact h.1 rfl
      · intro h; exact ⟨fun _ => h, fun q => by cases q⟩
    rw [e1]
    exact h1
theorem lcD_mapT {α : Type} (enc : α → D) (f : α → D) (l : List α) (acc : List D) (h : ∀ a ∈ l, ∀ P : KD R, (∀ ρ', wipeE ρ' vs = ρ → P (f a) ρ' m) → g (enc a) ρ m fun ρ2 m2 => e zF ρ2 m2 P) (hf : ∀ d, (f d).firm) (hl : acc.length + l.length ≤ sizeLine) (hq : Q (acc ++ l.map f) ρ m) : lcD g bYes e vs Q (l.map enc) acc ρ m :=
  lcD_relT enc (fun d y => y = f d) l acc (fun d hd P hP => h d hd P fun ρ' hw => hP _ ρ' rfl hw) (fun d y hy => by rw [hy]; exact hf d) hl fun ys hy => by rw [hy.eq_map]; exact hq
end
theorem lcD_filterT {α : Type} {R : Rs} {g : TGd R} {t : TB R} {e : TD R} {vs : List Nat} {Q : KL R} {ρ : List En} {m : R.M} (enc : α → D) (p : α → Bool) (f : α → D) : ∀ (l : List α) (acc : List D),
    (∀ d ∈ l, ∀ P : KB R, (∀ ρ', (p d = true → ∀ P2 : KD R, (∀ ρ'', wipeE ρ'' vs = ρ → P2 (f d) ρ'' m) → e zF ρ' m P2) → wipeE ρ' vs = ρ → P (p d) ρ' m) → g (enc d) ρ m fun ρ2 m2 => t zF ρ2 m2 P) →
    (∀ d, (f d).firm) → acc.length + l.length ≤ sizeLine → Q (acc ++ (l.filter p).map f) ρ m → lcD g t e vs Q (l.map enc) acc ρ m
  | [], acc, _, _, _, hq => by
    rw [List.filter_nil, List.map_nil, List.append_nil] at hq
    exact hq
  | d :: ds, acc, h, hf, hl, hq => by
    rw [List.length_cons] at hl
    refine h d (List.mem_cons_self ..) _ fun ρ' he hw => ⟨fun hb => he hb _ fun ρ'' hw2 => ⟨hf d, by omega, ?_⟩, fun hb => ?_⟩
    · rw [hw2]
      refine lcD_filterT enc p f ds (acc ++ [f d]) (fun d hd => h d (List.mem_cons_of_mem _ hd)) hf (by rw [List.length_append, List.length_singleton]; omega) ?_
      rw [List.filter_cons_of_pos hb, List.map_cons] at hq
      rw [List.append_assoc]
      exact hq
    · rw [hw]
      refine lcD_filterT enc p f ds acc (fun d hd => h d (List.mem_cons_of_mem _ hd)) hf (by omega) ?_
      rw [List.filter_cons_of_neg (by rw [hb]; decide)] at hq
      exact hq

/-- a comprehension whose items are all of a kind -/
theorem lcD_all {α β : Type} {R : Rs} {g : TGd R} {e : TD R} {vs : List Nat} {Q : KL R} {ρ : List En} {m : R.M} (enc : α → D) (en2 : β → D) (p : β → Prop) (l : List α) (h : ∀ a ∈ l, ∀ P : KD R, (∀ b ρ', p b → wipeE ρ' vs = ρ → P (en2 b) ρ' m) → g (enc a) ρ m fun ρ2 m2 => e zF ρ2 m2 P) (hf : ∀ b, (en2 b).firm) (hl : l.length ≤ sizeLine)
    (hq : ∀ bs : List β, bs.length = l.length → (∀ b ∈ bs, p b) → Q (bs.map en2) ρ m) : lcD g bYes e vs Q (l.map enc) [] ρ m := by
  refine lcD_relT enc (fun _ y => ∃ b, y = en2 b ∧ p b) l [] (fun a ha P hP => h a ha P fun b ρ' hb hw => hP _ ρ' ⟨b, rfl, hb⟩ hw) (fun _ y hy => by obtain ⟨b, rfl, _⟩ := hy; exact hf b) (by simpa using hl) fun ys hy => ?_
  obtain ⟨bs, rfl, h2⟩ := hy.choose
  exact hq bs h2.length.symm (All2.right (P := p) (fun _ _ z => z) h2)
/-- a comprehension that moves the state: an invariant over what is done -/
theorem lcD_inv {α : Type} {R : Rs} {g : TGd R} {e : TD R} {vs : List Nat} {Q : KL R} {ρ : List En} (enc : α → D) (I : List α → List D → R.M → Prop) : ∀ (l done : List α) (acc : List D) (m : R.M), I done acc m →
    (∀ a ∈ l, ∀ done acc m, I done acc m → ∀ P : KD R, (∀ y ρ' m', y.firm → wipeE ρ' vs = ρ → I (done ++ [a]) (acc ++ [y]) m' → P y ρ' m') → g (enc a) ρ m fun ρ2 m2 => e zF ρ2 m2 P) → acc.length + l.length ≤ sizeLine →
    (∀ ys m', I (done ++ l) ys m' → Q ys ρ m') → lcD g bYes e vs Q (l.map enc) acc ρ m
  | [], done, acc, m, hI, _, _, hq => by
    have := hq acc m
    rw [List.append_nil] at this
    exact this hI
  | d :: ds, done, acc, m, hI, h, hl, hq => by
    rw [List.length_cons] at hl
    have h1 := h d (List.mem_cons_self ..) done acc m hI (fun y ρ4 m4 => y.firm ∧ acc.length < sizeLine ∧ lcD g bYes e vs Q (ds.map enc) (acc ++ [y]) (wipeE ρ4 vs) m4) fun y ρ' m' hf hw hI' => by
      refine ⟨hf, by omega, ?_⟩
      rw [hw]
      exact lcD_inv enc I ds (done ++ [d]) (acc ++ [y]) m' hI' (fun d hd => h d (List.mem_cons_of_mem _ hd)) (by rw [List.length_append, List.length_singleton]; omega) fun ys m' hy => by
        rw [List.append_assoc] at hy
        exact hq ys m' hy
    show g (enc d) ρ m _
    have e1 : (fun (ρ2 : List En) (m2 : R.M) => bYes zF ρ2 m2 fun b ρ3 m3 => (b = true → e zF ρ3 m3 fun y ρ4 m4 => y.firm ∧ acc.length < sizeLine ∧ lcD g bYes e vs Q (ds.map enc) (acc ++ [y]) (wipeE ρ4 vs) m4) ∧ (b = false → lcD g bYes e vs Q (ds.map enc) acc (wipeE ρ3 vs) m3)) = fun ρ2 m2 => e zF ρ2 m2 fun y ρ4 m4 => y.firm ∧ acc.length < sizeLine ∧ lcD g bYes e vs Q (ds.map enc) (acc ++ [y]) (wipeE ρ4 vs) m4 := by
      funext ρ2 m2
      apply propext
      constructor
      · intro h; exact h.1 rfl
      · intro h; exact ⟨fun _ => h, fun q => by cases q⟩
    rw [e1]
    exact h1
theorem ndec2 {c A B : Prop} [Decidable c] (h1 : ¬ c → A) (h2 : c → B) : ((!decide c) = true → A) ∧ ((!decide c) = false → B) := by
  by_cases k : c
  · rw [decide_eq_true k]; exact ⟨fun q => (nomatch q), fun _ => h2 k⟩
  · rw [decide_eq_false k]; exact ⟨fun _ => h1 k, fun q => nomatch q⟩
theorem size1000 {n : Nat} (h : n ≤ 1000) : n ≤ sizeLine := by rw [sizeLine_eq]; omega
/-- where items stand -/
theorem ixN_ok {n : Nat} {i : Int} (h0 : 0 ≤ i) (h1 : i < n) : ixN n i = some i.toNat := by
  unfold ixN
  rw [if_pos h0, if_pos h1]
theorem eraseIdx_map {α β : Type} (f : α → β) : ∀ (l : List α) (k : Nat), (l.map f).eraseIdx k = (l.eraseIdx k).map f
  | [], _ => rfl
  | _ :: _, 0 => rfl
  | a :: l, k + 1 => by show f a :: (l.map f).eraseIdx k = _; rw [eraseIdx_map f l k]; rfl
theorem erase_perm {α : Type} : ∀ (l : List α) (k : Nat) (a : α), l[k]? = some a → List.Perm l (a :: l.eraseIdx k)
  | [], _, _, h => by cases h
  | b :: l, 0, a, h => by cases h; exact List.Perm.refl _
  | b :: l, k + 1, a, h => (List.Perm.cons b (erase_perm l k a h)).trans (List.Perm.swap a b _)
theorem seq_ok {n : Nat} {i : Int} (h0 : 0 ≤ i) (h1 : i < n) : seqIndex? i n = some i.toNat := (ixN_seq (ixN_ok h0 h1)).1
theorem pls_eI (l : List (List Int)) : pls (l.map eI) = true := pl_eII l
theorem atI_enc {α : Type} {enc : α → D} {l : List α} {i : Int} {a : α} (h0 : 0 ≤ i) (h : l[i.toNat]? = some a) : atI (l.map enc) i = some (enc a) := by
  have hlt : i.toNat < l.length := (List.getElem?_eq_some_iff.mp h).1
  unfold atI
  rw [List.length_map, ixN_ok h0 (by omega)]
  show (l.map enc)[i.toNat]? = _
  rw [List.getElem?_map, h]
  rfl
theorem get_some {α : Type} {l : List α} {i : Int} (h0 : 0 ≤ i) (h1 : i < l.length) : ∃ a, l[i.toNat]? = some a := ⟨_, List.getElem?_eq_getElem (by omega : i.toNat < l.length)⟩
theorem cut_none_some {α : Type} {enc : α → D} {l : List α} {i : Int} (h0 : 0 ≤ i) (h1 : i ≤ l.length) : cutD (l.map enc) none (some i) = (l.take i.toNat).map enc := by
  unfold cutD
  have e1 : HT.sIx (l.map enc).length 0 none = 0 := rfl
  have e2 : HT.sIx (l.map enc).length (l.map enc).length (some i) = i.toNat := by
    rw [List.length_map]
    show (if i < 0 then (i + (l.length : Int)).toNat else min i.toNat l.length) = i.toNat
    rw [if_neg (by omega)]; omega
  rw [e1, e2, List.drop_zero, List.map_take]
  rfl
theorem cut_some_none {α : Type} {enc : α → D} {l : List α} {i : Int} (h0 : 0 ≤ i) (h1 : i ≤ l.length) : cutD (l.map enc) (some i) none = (l.drop i.toNat).map enc := by
  unfold cutD
  have e1 : HT.sIx (l.map enc).length 0 (some i) = i.toNat := by
    rw [List.length_map]
    show (if i < 0 then (i + (l.length : Int)).toNat else min i.toNat l.length) = i.toNat
    rw [if_neg (by omega)]; omega
  have e2 : HT.sIx (l.map enc).length (l.map enc).length none = l.length := by
    rw [List.length_map]
    rfl
  rw [e1, e2, List.map_drop]
  exact List.take_of_length_le (by simp)

/-! ### sorted rows -/
abbrev leRow (a b : List Int) : Bool := decide (a ≤ b)
theorem leD_eI (a b : List Int) : leD (eI a) (eI b) = leRow a b := by
  have := congrFun (congrFun (PySem.W.dataLe_rows (fun x : List Int => x)) a) b
  rw [PySem.W.dataLe_eq] at this
  show PySem.W.dataLe false D.toP (eI a) (eI b) = _
  rw [PySem.W.dataLe_eq]
  show cond false _ (!PySem.W.dataLt (eI b).toP (eI a).toP) = _
  rw [toP_eI, toP_eI]
  exact this
theorem sort_eII (l : List (List Int)) : (l.map eI).mergeSort leD = (l.mergeSort leRow).map eI :=
  (PySem.W.sort_maps (r := leRow) (s := leD) eI fun a _ b _ => (leD_eI a b).symm).symm
theorem alike_rows (l : List (List Int)) : PySem.W.AllAlike ((l.map eI).map D.toP) := by
  rw [List.map_map]
  refine PySem.W.AllAlike.of fun a b => ?_
  show PySem.W.alike (eI a).toP (eI b).toP = true
  rw [toP_eI, toP_eI]
  simp only [PySem.W.alike]
  exact PySem.W.alike_ints a b
theorem sortable_rows (l : List (List Int)) : PySem.W.Sortable ((l.map eI).map D.toP) := by
  rw [List.map_map]
  refine PySem.W.Sortable.others fun a => ?_
  show (eI a).toP ≠ .none ∧ ∀ xs, (eI a).toP ≠ .tuple xs
  rw [toP_eI]
  refine ⟨?_, fun _ q => ?_⟩
  · exact fun q => nomatch q
  · exact nomatch q
theorem depth_rows (l : List (List Int)) : ∀ d ∈ l.map eI, d.toP.depth ≤ 60 := fun d hd => by
  obtain ⟨a, _, rfl⟩ := List.mem_map.mp hd
  exact Nat.le_trans (depth_eI a) (by decide)
theorem any_eI (a : List Int) (b : List (List Int)) (w : Vw) (ρ : List En) : ((toPs (b.map eI)).any fun d => PyData.eqv d (flat w ρ (eI a)).toP) = decide (a ∈ b) := by
  rw [toPs_map, List.map_map, List.any_map]
  rw [Bool.eq_iff_iff, List.any_eq_true, decide_eq_true_eq]
  constructor
  · rintro ⟨r, hr, e⟩
    have e' : PyData.eqv (eI r).toP (eI a).toP = true := e
    rw [eqv_eI, decide_eq_true_eq] at e'
    exact e' ▸ hr
  · intro hr
    refine ⟨a, hr, ?_⟩
    show PyData.eqv (eI a).toP (eI a).toP = true
    rw [eqv_eI, decide_eq_true rfl]
theorem eqv_flat_eI (w w' : Vw) (ρ ρ' : List En) (a b : List Int) : PyData.eqv (flat w ρ (eI a)).toP (flat w' ρ' (eI b)).toP = decide (a = b) := eqv_eI a b
theorem eqv_flat_eII (w w' : Vw) (ρ ρ' : List En) (a b : List (List Int)) : PyData.eqv (flat w ρ (eII a)).toP (flat w' ρ' (eII b)).toP = decide (a = b) := eqv_eII a b
theorem leRow_total (a b : List Int) : leRow a b = true ∨ leRow b a = true := by
  simp only [leRow, decide_eq_true_eq]
  exact List.le_total a b
theorem sort2 (a b : List Int) : [a, b].mergeSort leRow = if a ≤ b then [a, b] else [b, a] := by
  by_cases h : a ≤ b
  · rw [if_pos h]
    exact List.mergeSort_of_pairwise (by simp [leRow, h])
  · rw [if_neg h]
    have h2 : b ≤ a := (List.le_total a b).resolve_left h
    have hs := List.pairwise_mergeSort (le := leRow) (fun a b c h1 h2 => by simp only [leRow, decide_eq_true_eq] at *; exact List.le_trans h1 h2) (fun a b => by simpa [Bool.or_eq_true] using leRow_total a b) [a, b]
    have hp := List.mergeSort_perm [a, b] leRow
    refine List.Perm.eq_of_pairwise (le := fun a b => leRow a b = true) (fun a b _ _ h1 h2 => ?_) hs (by simp [leRow, h2]) (hp.trans (List.Perm.swap b a []))
    simp only [leRow, decide_eq_true_eq] at h1 h2
    exact List.le_antisymm h1 h2

/-! ### repr of rows -/
theorem layall_w {ps : List PyData} {n : Nat} (h : ∀ d ∈ ps, d.weight ≤ n) : PyData.weightAll ps ≤ ps.length * (n + 1) := by
  induction ps with
  | nil => simp [PyData.weightAll]
  | cons x xs ih =>
    have h1 := h x (List.mem_cons_self ..)
    have h2 := ih fun d hd => h d (List.mem_cons_of_mem _ hd)
    rw [PyData.weightAll, List.length_cons, Nat.add_mul]
    omega
theorem showAll {ps : List PyData} (h : ∀ d ∈ ps, d.showable = true) : PyData.showableAll ps = true := by
  induction ps with
  | nil => rfl
  | cons x xs ih => rw [PyData.showableAll, h x (List.mem_cons_self ..), ih fun d hd => h d (List.mem_cons_of_mem _ hd)]; rfl
theorem dictAll {ps : List PyData} (h : ∀ d ∈ ps, d.hasDict = false) : PyData.hasDictAll ps = false := by
  induction ps with
  | nil => rfl
  | cons x xs ih => rw [PyData.hasDictAll, h x (List.mem_cons_self ..), ih fun d hd => h d (List.mem_cons_of_mem _ hd)]; rfl
theorem shortAll {ps : List PyData} (h : ∀ d ∈ ps, d.intsShort 13 = true) : PyData.intsShortAll 13 ps = true := by
  induction ps with
  | nil => rfl
  | cons x xs ih => rw [PyData.intsShortAll, h x (List.mem_cons_self ..), ih fun d hd => h d (List.mem_cons_of_mem _ hd)]; rfl
/-- the facts repr wants of a datum -/
structure Nice (d : PyData) (w : Nat) : Prop where
  show_ : d.showable = true
  dict : d.hasDict = false
  lay : d.canLay0 = true
  short : d.intsShort 13 = true
  w : d.weight ≤ w
theorem nice_int {i : Int} (h : i.natAbs < 10 ^ 12) : Nice (.int i) 40 := by
  have hl : i.natAbs ≠ 0 → i.natAbs.log2 < 40 := fun hz => (Nat.log2_lt hz).mpr (Nat.lt_trans h (by decide))
  have hl2 : i.natAbs.log2 < 40 := by
    by_cases hz : i.natAbs = 0
    · rw [hz]; decide
    · exact hl hz
  refine ⟨?_, by simp only [PyData.hasDict], by simp only [PyData.canLay0], ?_, ?_⟩
  · simp only [PyData.showable, decide_eq_true_eq]; omega
  · have := PyData.intsShortAll_ints [i] (fun n hn => by rw [List.mem_singleton.mp hn]; exact h)
    simp only [List.map_cons, List.map_nil, PyData.intsShortAll, Bool.and_true] at this
    exact this
  · rw [PyData.weight]
    split <;> omega
theorem nice_list {ps : List PyData} {n k : Nat} (h : ∀ d ∈ ps, Nice d n) (hk : ps.length ≤ k) : Nice (.list ps) (k * (n + 1)) := by
  refine ⟨?_, ?_, lay_list fun d hd => (h d hd).lay, ?_, ?_⟩
  · rw [PyData.showable]; exact showAll fun d hd => (h d hd).show_
  · rw [PyData.hasDict]; exact dictAll fun d hd => (h d hd).dict
  · rw [PyData.intsShort]; exact shortAll fun d hd => (h d hd).short
  · rw [PyData.weight]
    exact Nat.le_trans (layall_w fun d hd => (h d hd).w) (Nat.mul_le_mul hk (Nat.le_refl _))
theorem Nice.shown_le {d : PyData} {n : Nat} (h : Nice d n) (hd : d.depth ≤ 60) (hn : n ≤ 2 ^ 20) : d.shown.length ≤ sizeLine := by
  refine PyData.shown_fits_of_layable0 (B := 13) (by decide) (by decide) ?_ h.short
  show (PyData.canLay0 d && decide (PyData.depth d ≤ 64) && decide (PyData.weight d ≤ 2 ^ 20)) = true
  rw [h.lay, decide_eq_true (Nat.le_trans hd (by decide)), decide_eq_true (Nat.le_trans h.w hn)]
  rfl
theorem nice_eI {l : List Int} {k : Nat} (h : ∀ i ∈ l, i.natAbs < 10 ^ 12) (hk : l.length ≤ k) : Nice (eI l).toP (k * 41) := by
  rw [toP_eI]
  refine nice_list (fun d hd => ?_) (by rwa [List.length_map])
  obtain ⟨i, hi, rfl⟩ := List.mem_map.mp hd
  exact nice_int (h i hi)
theorem nice_eII {l : List (List Int)} {k c : Nat} (h : ∀ r ∈ l, r.length ≤ c ∧ ∀ i ∈ r, i.natAbs < 10 ^ 12) (hk : l.length ≤ k) : Nice (eII l).toP (k * (c * 41 + 1)) := by
  have e : (eII l).toP = .list (l.map fun r => (eI r).toP) := by
    rw [toP_eII]
    congr 1
    exact List.map_congr_left fun r _ => (toP_eI r).symm
  rw [e]
  refine nice_list (fun d hd => ?_) (by rwa [List.length_map])
  obtain ⟨i, hi, rfl⟩ := List.mem_map.mp hd
  exact nice_eI (h i hi).2 (h i hi).1
theorem repr_eII {w : Vw} {ρ : List En} {l : List (List Int)} {k c : Nat} {Q : D → Prop} (h : ∀ r ∈ l, r.length ≤ c ∧ ∀ i ∈ r, i.natAbs < 10 ^ 12) (hk : l.length ≤ k) (hs : k * (c * 41 + 1) ≤ 2 ^ 20) (hq : Q (.str (eII l).toP.shown)) : dRepr w ρ [eII l] Q := by
  have N := nice_eII h hk
  have dp : (eII l).toP.depth ≤ 60 := Nat.le_trans (depth_eII l) (by decide)
  exact ⟨trivial, pl_eII l, N.show_, N.dict, dp, N.shown_le dp hs, hq⟩
end DL

/-! printed by gen.py from the linked text -/
namespace G76
open PySem L2 DL
def top (i : Nat) : Stmt := PySem.Challenge.pw_layerask_k76_rows_in_any_order.main.body.getD i (.Pass ⟨0, 0, 0, 0⟩)
abbrev s_power : Stmt := top 1
abbrev s_mark : Stmt := top 3
abbrev s_product : Stmt := top 4
abbrev s_same_bag : Stmt := top 5
abbrev s_among : Stmt := top 6
abbrev s_in_order : Stmt := top 7
abbrev s_sorted_claim : Stmt := top 8
abbrev s__law_state : Stmt := top 10
abbrev s__law_draw : Stmt := top 11
abbrev s__law_pick : Stmt := top 12
abbrev s__law_rows : Stmt := top 13
abbrev s__law_mark : Stmt := top 14
abbrev s__law_product : Stmt := top 15
abbrev s__law_turned : Stmt := top 16
abbrev s__law_times : Stmt := top 17
abbrev s__law_changed : Stmt := top 18
abbrev s__law_among_right : Stmt := top 19
abbrev s__law_ascends : Stmt := top 20
abbrev s_law : Stmt := top 21
structure Txt (K : PySem.W.Frag) (mg : Str → Option Value) : Prop where
  f_power : TopDef K mg "power" s_power
  f_mark : TopDef K mg "mark" s_mark
  f_product : TopDef K mg "product" s_product
  f_same_bag : TopDef K mg "same_bag" s_same_bag
  f_among : TopDef K mg "among" s_among
  f_in_order : TopDef K mg "in_order" s_in_order
  f_sorted_claim : TopDef K mg "sorted_claim" s_sorted_claim
  f__law_state : TopDef K mg "_law_state" s__law_state
  f__law_draw : TopDef K mg "_law_draw" s__law_draw
  f__law_pick : TopDef K mg "_law_pick" s__law_pick
  f__law_rows : TopDef K mg "_law_rows" s__law_rows
  f__law_mark : TopDef K mg "_law_mark" s__law_mark
  f__law_product : TopDef K mg "_law_product" s__law_product
  f__law_turned : TopDef K mg "_law_turned" s__law_turned
  f__law_times : TopDef K mg "_law_times" s__law_times
  f__law_changed : TopDef K mg "_law_changed" s__law_changed
  f__law_among_right : TopDef K mg "_law_among_right" s__law_among_right
  f__law_ascends : TopDef K mg "_law_ascends" s__law_ascends
  f_law : TopDef K mg "law" s_law
  no_abs : mg "abs" = none
  no_all : mg "all" = none
  no_bool : mg "bool" = none
  no_int : mg "int" = none
  no_isinstance : mg "isinstance" = none
  no_len : mg "len" = none
  no_list : mg "list" = none
  no_max : mg "max" = none
  no_range : mg "range" = none
  no_repr : mg "repr" = none
  no_sorted : mg "sorted" = none
  no_sum : mg "sum" = none
  no_zip : mg "zip" = none
section
variable {P : Program} {w : World} {K : PySem.W.Frag} {mg : Str → Option Value} {base : Heap}
abbrev b1_power : TSd R0 := (sSeq (sIf (bOf (eOp dEq (eOp dMod (eVar 1) (eC (.int 2))) (eC (.int 1)))) (sSet 3 (eOp dMod (eOp dMul (eVar 3) (eVar 4)) (eVar 2))) sNext)
    (sSeq (sSet 4 (eOp dMod (eOp dMul (eVar 4) (eVar 4)) (eVar 2)))
    (sAug 1 dDiv (eC (.int 2)))))
abbrev t_power : TSd R0 := (sSeq (sSet 3 (eOp dMod (eC (.int 1)) (eVar 2)))
    (sSeq (sSet 4 (eOp dMod (eVar 0) (eVar 2)))
    (sSeq (sWhile (bOf (eOp dGt (eVar 1) (eC (.int 0)))) (b1_power))
    (sRet (eVar 3)))))
theorem sc_power : FnScope ["base", "exponent", "p", "result", "square"] ["base", "exponent", "p"] (defScope s_power) := ⟨rfl, rfl, rfl, by decide +kernel, rfl, by decide +kernel, by decide +kernel⟩
theorem dv_power (T : Txt K mg) {sp : SpD R0} (hsp : ∀ ds m Q Z, ds.length = 3 → sp ds m Q Z → t_power { nx := fun _ m => Q .non m, rt := Q, rz := fun x _ m => Z x m } (startE 5 ds) m) :
    DefOk P w K mg base R0 1 "power" ["base", "exponent", "p"] sp := by
  have nd := (sc_power).nd
  exact DefOk.mk' (k := 0) (t := t_power) T.f_power sc_power (fun _ _ _ _ _ _ us hl => match us, hl with | [_, _, _], _ => rfl) (fun f cdv A outer s H E hr hG tk =>
    (dss_cons (ds_set (i := 3) nd rfl (Or.inl rfl) (de_mod de_int (de_var (pv 2))))
    (dss_cons (ds_set (i := 4) nd rfl (Or.inl rfl) (de_mod (de_var (pv 0)) (de_var (pv 2))))
    (dss_cons (ds_while (passes_of rfl) (dt_gt (de_var (pv 1)) de_int) (dss_cons (ds_if (dt_eq hr.units (de_mod (de_var (pv 1)) de_int) de_int) (dss_one (ds_set (i := 3) nd rfl (Or.inl rfl) (de_mod (de_mul (de_var (pv 3)) (de_var (pv 4))) (de_var (pv 2))))) dss_nil)
    (dss_cons (ds_set (i := 4) nd rfl (Or.inl rfl) (de_mod (de_mul (de_var (pv 4)) (de_var (pv 4))) (de_var (pv 2))))
    (dss_one (ds_augDiv (i := 1) nd rfl (Or.inl rfl) de_int)))))
    (dss_one (ds_ret (de_var (pv 3)))))))) hsp
abbrev b1_mark : TSd R0 := (sSet 3 (eOp dMod (eOp dAdd (eOp dMul (eVar 3) (eVar 1)) (eVar 4)) (eVar 2)))
abbrev t_mark : TSd R0 := (sSeq (sSet 3 (eC (.int 0)))
    (sSeq (sFor (iLst (eFz (eRevO (eVar 0)))) (tName 4) (b1_mark))
    (sRet (eVar 3))))
theorem sc_mark : FnScope ["row", "s", "p", "total", "number"] ["row", "s", "p"] (defScope s_mark) := ⟨rfl, rfl, rfl, by decide +kernel, rfl, by decide +kernel, by decide +kernel⟩
theorem dv_mark (T : Txt K mg) {sp : SpD R0} (hsp : ∀ ds m Q Z, ds.length = 3 → sp ds m Q Z → t_mark { nx := fun _ m => Q .non m, rt := Q, rz := fun x _ m => Z x m } (startE 5 ds) m) :
    DefOk P w K mg base R0 1 "mark" ["row", "s", "p"] sp := by
  have nd := (sc_mark).nd
  exact DefOk.mk' (k := 0) (t := t_mark) T.f_mark sc_mark (fun _ _ _ _ _ _ us hl => match us, hl with | [_, _, _], _ => rfl) (fun f cdv A outer s H E hr hG tk =>
    (dss_cons (ds_set (i := 3) nd rfl (Or.inl rfl) de_int)
    (dss_cons (ds_for (passes_of rfl) rfl (di_list (DO.fz (do_rev (de_var (pv 0))))) (dg_name (i := 4) nd rfl (by first | exact Or.inl rfl | exact Or.inr rfl)) (dss_one (ds_set (i := 3) nd rfl (Or.inl rfl) (de_mod (de_add (de_mul (de_var (pv 3)) (de_var (pv 1))) (de_var (pv 4))) (de_var (pv 2))))))
    (dss_one (ds_ret (de_var (pv 3))))))) hsp
abbrev b1_product (sp_mark : SpD R0) : TSd R0 := (sSet 4 (eOp dMod (eOp dMul (eVar 4) (eOp dSub (eVar 2) (eCall sp_mark (aCons (eVar 5) (aCons (eVar 1) (aCons (eVar 3) aNil)))))) (eVar 3)))
abbrev t_product (sp_mark : SpD R0) : TSd R0 := (sSeq (sSet 4 (eOp dMod (eC (.int 1)) (eVar 3)))
    (sSeq (sFor (iLst (eVar 0)) (tName 5) (b1_product sp_mark))
    (sRet (eVar 4))))
theorem sc_product : FnScope ["rows", "s", "t", "p", "result", "row"] ["rows", "s", "t", "p"] (defScope s_product) := ⟨rfl, rfl, rfl, by decide +kernel, rfl, by decide +kernel, by decide +kernel⟩
theorem dv_product (T : Txt K mg) {sp_mark : SpD R0} (D_mark : DefOk P w K mg base R0 1 "mark" ["row", "s", "p"] sp_mark) {sp : SpD R0} (hsp : ∀ ds m Q Z, ds.length = 4 → sp ds m Q Z → t_product sp_mark { nx := fun _ m => Q .non m, rt := Q, rz := fun x _ m => Z x m } (startE 6 ds) m) :
    DefOk P w K mg base R0 2 "product" ["rows", "s", "t", "p"] sp := by
  have nd := (sc_product).nd
  exact DefOk.mk' (k := 1) (t := t_product sp_mark) T.f_product sc_product (fun _ _ _ _ _ _ us hl => match us, hl with | [_, _, _, _], _ => rfl) (fun f cdv A outer s H E hr hG tk =>
    (dss_cons (ds_set (i := 4) nd rfl (Or.inl rfl) (de_mod de_int (de_var (pv 3))))
    (dss_cons (ds_for (passes_of rfl) rfl (di_list (de_var (pv 0))) (dg_name (i := 5) nd rfl (by first | exact Or.inl rfl | exact Or.inr rfl)) (dss_one (ds_set (i := 4) nd rfl (Or.inl rfl) (de_mod (de_mul (de_var (pv 4)) (de_sub (de_var (pv 2)) (de_call D_mark (hr.mono (by decide)) hG rfl tk (da_cons (de_var (pv 5)) (da_cons (de_var (pv 1)) (da_cons (de_var (pv 3)) da_nil)))))) (de_var (pv 3))))))
    (dss_one (ds_ret (de_var (pv 4))))))) hsp
abbrev t_same_bag (sp_product : SpD R0) : TSd R0 := (sRet (eAnd (eOp dEq (eCl dLen (aCons (eVar 0) aNil)) (eCl dLen (aCons (eVar 1) aNil))) (eOp dEq (eCall sp_product (aCons (eVar 0) (aCons (eVar 2) (aCons (eVar 3) (aCons (eVar 4) aNil))))) (eCall sp_product (aCons (eVar 1) (aCons (eVar 2) (aCons (eVar 3) (aCons (eVar 4) aNil))))))))
theorem sc_same_bag : FnScope ["rows", "others", "s", "t", "p"] ["rows", "others", "s", "t", "p"] (defScope s_same_bag) := ⟨rfl, rfl, rfl, by decide +kernel, rfl, by decide +kernel, by decide +kernel⟩
theorem dv_same_bag (T : Txt K mg) {sp_product : SpD R0} (D_product : DefOk P w K mg base R0 2 "product" ["rows", "s", "t", "p"] sp_product) {sp : SpD R0} (hsp : ∀ ds m Q Z, ds.length = 5 → sp ds m Q Z → t_same_bag sp_product { nx := fun _ m => Q .non m, rt := Q, rz := fun x _ m => Z x m } (startE 5 ds) m) :
    DefOk P w K mg base R0 3 "same_bag" ["rows", "others", "s", "t", "p"] sp := by
  have nd := (sc_same_bag).nd
  exact DefOk.mk' (k := 2) (t := t_same_bag sp_product) T.f_same_bag sc_same_bag (fun _ _ _ _ _ _ us hl => match us, hl with | [_, _, _, _, _], _ => rfl) (fun f cdv A outer s H E hr hG tk =>
    (dss_one (ds_ret (de_and (de_eq hr.units (de_len rfl T.no_len (da_cons (de_var (pv 0)) da_nil)) (de_len rfl T.no_len (da_cons (de_var (pv 1)) da_nil))) (de_one (de_eq hr.units (de_call D_product (hr.mono (by decide)) hG rfl tk (da_cons (de_var (pv 0)) (da_cons (de_var (pv 2)) (da_cons (de_var (pv 3)) (da_cons (de_var (pv 4)) da_nil))))) (de_call D_product (hr.mono (by decide)) hG rfl tk (da_cons (de_var (pv 1)) (da_cons (de_var (pv 2)) (da_cons (de_var (pv 3)) (da_cons (de_var (pv 4)) da_nil))))))))))) hsp
abbrev b1_among (sp_power : SpD R0) (sp_mark : SpD R0) (sp_product : SpD R0) : TSd R0 := (sSet 6 (eOp dMod (eOp dMul (eVar 6) (eCall sp_power (aCons (eOp dSub (eVar 4) (eCall sp_mark (aCons (eVar 7) (aCons (eVar 3) (aCons (eVar 5) aNil))))) (aCons (eVar 8) (aCons (eVar 5) aNil))))) (eVar 5)))
abbrev t_among (sp_power : SpD R0) (sp_mark : SpD R0) (sp_product : SpD R0) : TSd R0 := (sSeq (sIf (bOr (bOf (eOp dNe (eCl dLen (aCons (eVar 2) aNil)) (eCl dLen (aCons (eVar 1) aNil)))) (bOf (eOp dNe (eCl dSum (aCons (eVar 2) aNil)) (eCl dLen (aCons (eVar 0) aNil))))) (sRet (eC (.bl false))) sNext)
    (sSeq (sSet 6 (eOp dMod (eC (.int 1)) (eVar 5)))
    (sSeq (sFor (iZipD (aCons (eVar 1) (aCons (eVar 2) aNil))) (tTupD 2 (tsCons (tName 7) (tsCons (tName 8) tsNil))) (b1_among sp_power sp_mark sp_product))
    (sRet (eOp dEq (eVar 6) (eCall sp_product (aCons (eVar 0) (aCons (eVar 3) (aCons (eVar 4) (aCons (eVar 5) aNil))))))))))
theorem sc_among : FnScope ["rows", "table", "counts", "s", "t", "p", "result", "row", "count"] ["rows", "table", "counts", "s", "t", "p"] (defScope s_among) := ⟨rfl, rfl, rfl, by decide +kernel, rfl, by decide +kernel, by decide +kernel⟩
theorem dv_among (T : Txt K mg) {sp_power : SpD R0} (D_power : DefOk P w K mg base R0 1 "power" ["base", "exponent", "p"] sp_power) {sp_mark : SpD R0} (D_mark : DefOk P w K mg base R0 1 "mark" ["row", "s", "p"] sp_mark) {sp_product : SpD R0} (D_product : DefOk P w K mg base R0 2 "product" ["rows", "s", "t", "p"] sp_product) {sp : SpD R0} (hsp : ∀ ds m Q Z, ds.length = 6 → sp ds m Q Z → t_among sp_power sp_mark sp_product { nx := fun _ m => Q .non m, rt := Q, rz := fun x _ m => Z x m } (startE 9 ds) m) :
    DefOk P w K mg base R0 3 "among" ["rows", "table", "counts", "s", "t", "p"] sp := by
  have nd := (sc_among).nd
  exact DefOk.mk' (k := 2) (t := t_among sp_power sp_mark sp_product) T.f_among sc_among (fun _ _ _ _ _ _ us hl => match us, hl with | [_, _, _, _, _, _], _ => rfl) (fun f cdv A outer s H E hr hG tk =>
    (dss_cons (ds_if (DW.pt (dw_or (dt_ne hr.units (de_len rfl T.no_len (da_cons (de_var (pv 2)) da_nil)) (de_len rfl T.no_len (da_cons (de_var (pv 1)) da_nil))) (dw_or1 (dt_ne hr.units (de_sum rfl rfl T.no_sum (da_cons (de_var (pv 2)) da_nil)) (de_len rfl T.no_len (da_cons (de_var (pv 0)) da_nil)))))) (dss_one (ds_ret de_bl)) dss_nil)
    (dss_cons (ds_set (i := 6) nd rfl (Or.inl rfl) (de_mod de_int (de_var (pv 5))))
    (dss_cons (ds_for (passes_of rfl) rfl (di_zip rfl T.no_zip (da_cons (de_var (pv 1)) (da_cons (de_var (pv 2)) da_nil))) (dg_tup rfl (dgs_cons (dg_name (i := 7) nd rfl (by first | exact Or.inl rfl | exact Or.inr rfl)) (dgs_cons (dg_name (i := 8) nd rfl (by first | exact Or.inl rfl | exact Or.inr rfl)) dgs_nil))) (dss_one (ds_set (i := 6) nd rfl (Or.inl rfl) (de_mod (de_mul (de_var (pv 6)) (de_call D_power (hr.mono (by decide)) hG rfl tk (da_cons (de_sub (de_var (pv 4)) (de_call D_mark (hr.mono (by decide)) hG rfl tk (da_cons (de_var (pv 7)) (da_cons (de_var (pv 3)) (da_cons (de_var (pv 5)) da_nil))))) (da_cons (de_var (pv 8)) (da_cons (de_var (pv 5)) da_nil))))) (de_var (pv 5))))))
    (dss_one (ds_ret (de_eq hr.units (de_var (pv 6)) (de_call D_product (hr.mono (by decide)) hG rfl tk (da_cons (de_var (pv 0)) (da_cons (de_var (pv 3)) (da_cons (de_var (pv 4)) (da_cons (de_var (pv 5)) da_nil)))))))))))) hsp
abbrev t_in_order : TSd R0 := (sRet (eCl dAll (aCons (eFz (eLc (iRange1 (aCons (eOp dSub (eCl dLen (aCons (eVar 0) aNil)) (eC (.int 1))) aNil)) (tName 1) bYes (eOp dLeU (eOp dIx (eVar 0) (eVar 1)) (eOp dIx (eVar 0) (eOp dAdd (eVar 1) (eC (.int 1))))) [1])) aNil)))
theorem sc_in_order : FnScope ["rows", "k"] ["rows"] (defScope s_in_order) := ⟨rfl, rfl, rfl, by decide +kernel, rfl, by decide +kernel, by decide +kernel⟩
theorem dv_in_order (T : Txt K mg) {sp : SpD R0} (hsp : ∀ ds m Q Z, ds.length = 1 → sp ds m Q Z → t_in_order { nx := fun _ m => Q .non m, rt := Q, rz := fun x _ m => Z x m } (startE 2 ds) m) :
    DefOk P w K mg base R0 1 "in_order" ["rows"] sp := by
  have nd := (sc_in_order).nd
  exact DefOk.mk' (k := 0) (t := t_in_order) T.f_in_order sc_in_order (fun _ _ _ _ _ _ us hl => match us, hl with | [_], _ => rfl) (fun f cdv A outer s H E hr hG tk =>
    (dss_one (ds_ret (de_all rfl rfl T.no_all (da_cons (DO.fz (do_lc (own := [("k", 1)]) rfl nd (di_range1 rfl T.no_range (da_cons (de_sub (de_len rfl T.no_len (da_cons (de_var (pv 0)) da_nil)) de_int) da_nil)) (blkOk_by (own := [("k", 1)]) (by kernel_rfl)) (fun _ => (dg_name (i := 1) nd rfl (by first | exact Or.inl rfl | exact Or.inr rfl))) (fun _ => dts_nil) (fun _ => (de_le hr.units (de_at (de_var (pv 0)) (de_var (pv 1))) (de_at (de_var (pv 0)) (de_add (de_var (pv 1)) de_int)))) (by decide))) da_nil))))) hsp
abbrev t_sorted_claim (sp_in_order : SpD R0) (sp_same_bag : SpD R0) : TSd R0 := (sRet (eAnd (eCall sp_in_order (aCons (eVar 1) aNil)) (eCall sp_same_bag (aCons (eVar 0) (aCons (eVar 1) (aCons (eVar 2) (aCons (eVar 3) (aCons (eVar 4) aNil))))))))
theorem sc_sorted_claim : FnScope ["rows", "outputs", "s", "t", "p"] ["rows", "outputs", "s", "t", "p"] (defScope s_sorted_claim) := ⟨rfl, rfl, rfl, by decide +kernel, rfl, by decide +kernel, by decide +kernel⟩
theorem dv_sorted_claim (T : Txt K mg) {sp_in_order : SpD R0} (D_in_order : DefOk P w K mg base R0 1 "in_order" ["rows"] sp_in_order) {sp_same_bag : SpD R0} (D_same_bag : DefOk P w K mg base R0 3 "same_bag" ["rows", "others", "s", "t", "p"] sp_same_bag) {sp : SpD R0} (hsp : ∀ ds m Q Z, ds.length = 5 → sp ds m Q Z → t_sorted_claim sp_in_order sp_same_bag { nx := fun _ m => Q .non m, rt := Q, rz := fun x _ m => Z x m } (startE 5 ds) m) :
    DefOk P w K mg base R0 4 "sorted_claim" ["rows", "outputs", "s", "t", "p"] sp := by
  have nd := (sc_sorted_claim).nd
  exact DefOk.mk' (k := 3) (t := t_sorted_claim sp_in_order sp_same_bag) T.f_sorted_claim sc_sorted_claim (fun _ _ _ _ _ _ us hl => match us, hl with | [_, _, _, _, _], _ => rfl) (fun f cdv A outer s H E hr hG tk =>
    (dss_one (ds_ret (de_and (de_call D_in_order (hr.mono (by decide)) hG rfl tk (da_cons (de_var (pv 1)) da_nil)) (de_one (de_call D_same_bag (hr.mono (by decide)) hG rfl tk (da_cons (de_var (pv 0)) (da_cons (de_var (pv 1)) (da_cons (de_var (pv 2)) (da_cons (de_var (pv 3)) (da_cons (de_var (pv 4)) da_nil))))))))))) hsp
abbrev b1__law_state : TSd RD := (sSet 1 (eOp dMod (eCl dToInt (aCons (eOp dAdd (eOp dMul (eVar 1) (eC (.int 31))) (eVar 2)) aNil)) (eC (.int 1000003))))
abbrev t__law_state : TSd RD := (sSeq (sSet 1 (eC (.int 7)))
    (sSeq (sFor (iLst (eVar 0)) (tName 2) (b1__law_state))
    (sRetSt (eLc (iLst (eVar 0)) (tName 2) bYes (eCl dAbs (aCons (eVar 2) aNil)) [2]) (eOp dAdd (eVar 1) (eC (.int 1))))))
theorem sc__law_state : FnScope ["_law_script", "_law_seed", "_law_cell"] ["_law_script"] (defScope s__law_state) := ⟨rfl, rfl, rfl, by decide +kernel, rfl, by decide +kernel, by decide +kernel⟩
theorem dv__law_state (T : Txt K mg) {sp : SpD RD} (hsp : ∀ ds m Q Z, ds.length = 1 → sp ds m Q Z → t__law_state { nx := fun _ m => Q .non m, rt := Q, rz := fun x _ m => Z x m } (startE 3 ds) m) :
    DefOk P w K mg base RD 1 "_law_state" ["_law_script"] sp := by
  have nd := (sc__law_state).nd
  exact DefOk.mk' (k := 0) (t := t__law_state) T.f__law_state sc__law_state (fun _ _ _ _ _ _ us hl => match us, hl with | [_], _ => rfl) (fun f cdv A outer s H E hr hG tk =>
    (dss_cons (ds_set (i := 1) nd rfl (Or.inl rfl) de_int)
    (dss_cons (ds_for (passes_of rfl) rfl (di_list (de_var (pv 0))) (dg_name (i := 2) nd rfl (by first | exact Or.inl rfl | exact Or.inr rfl)) (dss_one (ds_set (i := 1) nd rfl (Or.inl rfl) (de_mod (de_toInt rfl T.no_int (da_cons (de_add (de_mul (de_var (pv 1)) de_int) (de_var (pv 2))) da_nil)) de_int))))
    (dss_one (ds_retSt (do_lc (own := [("_law_cell", 2)]) rfl nd (di_list (de_var (pv 0))) (blkOk_by (own := [("_law_cell", 2)]) (by kernel_rfl)) (fun _ => (dg_name (i := 2) nd rfl (by first | exact Or.inl rfl | exact Or.inr rfl))) (fun _ => dts_nil) (fun _ => (de_abs rfl T.no_abs (da_cons (de_var (pv 2)) da_nil))) (by decide)) (de_add (de_var (pv 1)) de_int)))))) hsp
abbrev t__law_pick (sp__law_draw : SpD RD) : TSd RD := (sRet (eOp dIx (eVar 1) (eCall sp__law_draw (aCons (eVar 0) (aCons (eCl dLen (aCons (eVar 1) aNil)) aNil)))))
theorem sc__law_pick : FnScope ["_law_state_here", "_law_row"] ["_law_state_here", "_law_row"] (defScope s__law_pick) := ⟨rfl, rfl, rfl, by decide +kernel, rfl, by decide +kernel, by decide +kernel⟩
theorem dv__law_pick (T : Txt K mg) {sp__law_draw : SpD RD} (D__law_draw : DefOk P w K mg base RD 1 "_law_draw" ["_law_state_here", "_law_many"] sp__law_draw) {sp : SpD RD} (hsp : ∀ ds m Q Z, ds.length = 2 → sp ds m Q Z → t__law_pick sp__law_draw { nx := fun _ m => Q .non m, rt := Q, rz := fun x _ m => Z x m } (startE 2 ds) m) :
    DefOk P w K mg base RD 2 "_law_pick" ["_law_state_here", "_law_row"] sp := by
  have nd := (sc__law_pick).nd
  exact DefOk.mk' (k := 1) (t := t__law_pick sp__law_draw) T.f__law_pick sc__law_pick (fun _ _ _ _ _ _ us hl => match us, hl with | [_, _], _ => rfl) (fun f cdv A outer s H E hr hG tk =>
    (dss_one (ds_ret (de_at (de_var (pv 1)) (de_call D__law_draw (hr.mono (by decide)) hG rfl tk (da_cons (de_var (pv 0)) (da_cons (de_len rfl T.no_len (da_cons (de_var (pv 1)) da_nil)) da_nil))))))) hsp
abbrev t__law_rows (sp__law_draw : SpD RD) (sp__law_pick : SpD RD) : TSd RD := (sSeq (sSet 4 (eFz (eLc (iRange1 (aCons (eOp dAdd (eC (.int 1)) (eCall sp__law_draw (aCons (eVar 0) (aCons (eOp dAdd (eVar 1) (eC (.int 1))) aNil)))) aNil)) (tName 5) bYes (eFz (eLc (iRange1 (aCons (eVar 2) aNil)) (tName 6) bYes (eCall sp__law_draw (aCons (eVar 0) (aCons (eVar 3) aNil))) [6])) [5])))
    (sRet (eFz (eLc (iRange1 (aCons (eVar 1) aNil)) (tName 6) bYes (eFz (eClO dListO (aCons (eCall sp__law_pick (aCons (eVar 0) (aCons (eVar 4) aNil))) aNil))) [6]))))
theorem sc__law_rows : FnScope ["_law_state_here", "_law_many", "_law_width", "_law_p", "_law_pool", "_law_j", "_law_k"] ["_law_state_here", "_law_many", "_law_width", "_law_p"] (defScope s__law_rows) := ⟨rfl, rfl, rfl, by decide +kernel, rfl, by decide +kernel, by decide +kernel⟩
theorem dv__law_rows (T : Txt K mg) {sp__law_draw : SpD RD} (D__law_draw : DefOk P w K mg base RD 1 "_law_draw" ["_law_state_here", "_law_many"] sp__law_draw) {sp__law_pick : SpD RD} (D__law_pick : DefOk P w K mg base RD 2 "_law_pick" ["_law_state_here", "_law_row"] sp__law_pick) {sp : SpD RD} (hsp : ∀ ds m Q Z, ds.length = 4 → sp ds m Q Z → t__law_rows sp__law_draw sp__law_pick { nx := fun _ m => Q .non m, rt := Q, rz := fun x _ m => Z x m } (startE 7 ds) m) :
    DefOk P w K mg base RD 3 "_law_rows" ["_law_state_here", "_law_many", "_law_width", "_law_p"] sp := by
  have nd := (sc__law_rows).nd
  exact DefOk.mk' (k := 2) (t := t__law_rows sp__law_draw sp__law_pick) T.f__law_rows sc__law_rows (fun _ _ _ _ _ _ us hl => match us, hl with | [_, _, _, _], _ => rfl) (fun f cdv A outer s H E hr hG tk =>
    (dss_cons (ds_set (i := 4) nd rfl (Or.inr rfl) (DO.fz (do_lc (own := [("_law_j", 5)]) rfl nd (di_range1 rfl T.no_range (da_cons (de_add de_int (de_call D__law_draw (hr.mono (by decide)) hG rfl tk (da_cons (de_var (pv 0)) (da_cons (de_add (de_var (pv 1)) de_int) da_nil)))) da_nil)) (blkOk_by (own := [("_law_j", 5)]) (by kernel_rfl)) (fun _ => (dg_name (i := 5) nd rfl (by first | exact Or.inl rfl | exact Or.inr rfl))) (fun _ => dts_nil) (fun _ => (DO.fz (do_lc (own := [("_law_k", 6)]) rfl nd (di_range1 rfl T.no_range (da_cons (de_var (pv 2)) da_nil)) (blkOk_by (own := [("_law_k", 6)]) (by kernel_rfl)) (fun _ => (dg_name (i := 6) nd rfl (by first | exact Or.inl rfl | exact Or.inr rfl))) (fun _ => dts_nil) (fun _ => (de_call D__law_draw (hr.mono (by decide)) hG rfl takes0 (da_cons (de_var (pv 0)) (da_cons (de_var (pv 3)) da_nil)))) (by decide)))) (by decide))))
    (dss_one (ds_ret (DO.fz (do_lc (own := [("_law_k", 6)]) rfl nd (di_range1 rfl T.no_range (da_cons (de_var (pv 1)) da_nil)) (blkOk_by (own := [("_law_k", 6)]) (by kernel_rfl)) (fun _ => (dg_name (i := 6) nd rfl (by first | exact Or.inl rfl | exact Or.inr rfl))) (fun _ => dts_nil) (fun _ => (DO.fz (do_list rfl T.no_list (da_cons (de_call D__law_pick (hr.mono (by decide)) hG rfl takes0 (da_cons (de_var (pv 0)) (da_cons (de_var (pv 4)) da_nil))) da_nil)))) (by decide))))))) hsp
abbrev b1__law_mark : TSd RD := (sSeq (sSet 3 (eOp dMod (eCl dToInt (aCons (eOp dAdd (eVar 3) (eOp dMul (eVar 5) (eVar 4))) aNil)) (eVar 2)))
    (sSet 4 (eOp dMod (eCl dToInt (aCons (eOp dMul (eVar 4) (eVar 1)) aNil)) (eVar 2))))
abbrev t__law_mark : TSd RD := (sSeq (sSet 3 (eC (.int 0)))
    (sSeq (sSet 4 (eC (.int 1)))
    (sSeq (sFor (iLst (eVar 0)) (tName 5) (b1__law_mark))
    (sRet (eVar 3)))))
theorem sc__law_mark : FnScope ["_law_row", "_law_s", "_law_p", "_law_total", "_law_factor", "_law_number"] ["_law_row", "_law_s", "_law_p"] (defScope s__law_mark) := ⟨rfl, rfl, rfl, by decide +kernel, rfl, by decide +kernel, by decide +kernel⟩
theorem dv__law_mark (T : Txt K mg) {sp : SpD RD} (hsp : ∀ ds m Q Z, ds.length = 3 → sp ds m Q Z → t__law_mark { nx := fun _ m => Q .non m, rt := Q, rz := fun x _ m => Z x m } (startE 6 ds) m) :
    DefOk P w K mg base RD 1 "_law_mark" ["_law_row", "_law_s", "_law_p"] sp := by
  have nd := (sc__law_mark).nd
  exact DefOk.mk' (k := 0) (t := t__law_mark) T.f__law_mark sc__law_mark (fun _ _ _ _ _ _ us hl => match us, hl with | [_, _, _], _ => rfl) (fun f cdv A outer s H E hr hG tk =>
    (dss_cons (ds_set (i := 3) nd rfl (Or.inl rfl) de_int)
    (dss_cons (ds_set (i := 4) nd rfl (Or.inl rfl) de_int)
    (dss_cons (ds_for (passes_of rfl) rfl (di_list (de_var (pv 0))) (dg_name (i := 5) nd rfl (by first | exact Or.inl rfl | exact Or.inr rfl)) (dss_cons (ds_set (i := 3) nd rfl (Or.inl rfl) (de_mod (de_toInt rfl T.no_int (da_cons (de_add (de_var (pv 3)) (de_mul (de_var (pv 5)) (de_var (pv 4)))) da_nil)) (de_var (pv 2))))
    (dss_one (ds_set (i := 4) nd rfl (Or.inl rfl) (de_mod (de_toInt rfl T.no_int (da_cons (de_mul (de_var (pv 4)) (de_var (pv 1))) da_nil)) (de_var (pv 2)))))))
    (dss_one (ds_ret (de_var (pv 3)))))))) hsp
abbrev b1__law_product (sp__law_mark : SpD RD) : TSd RD := (sSet 4 (eOp dMod (eCl dToInt (aCons (eOp dMul (eVar 4) (eOp dSub (eVar 2) (eCall sp__law_mark (aCons (eVar 5) (aCons (eVar 1) (aCons (eVar 3) aNil)))))) aNil)) (eVar 3)))
abbrev t__law_product (sp__law_mark : SpD RD) : TSd RD := (sSeq (sSet 4 (eC (.int 1)))
    (sSeq (sFor (iLst (eVar 0)) (tName 5) (b1__law_product sp__law_mark))
    (sRet (eOp dMod (eCl dToInt (aCons (eVar 4) aNil)) (eVar 3)))))
theorem sc__law_product : FnScope ["_law_rows_here", "_law_s", "_law_t", "_law_p", "_law_result", "_law_row"] ["_law_rows_here", "_law_s", "_law_t", "_law_p"] (defScope s__law_product) := ⟨rfl, rfl, rfl, by decide +kernel, rfl, by decide +kernel, by decide +kernel⟩
theorem dv__law_product (T : Txt K mg) {sp__law_mark : SpD RD} (D__law_mark : DefOk P w K mg base RD 1 "_law_mark" ["_law_row", "_law_s", "_law_p"] sp__law_mark) {sp : SpD RD} (hsp : ∀ ds m Q Z, ds.length = 4 → sp ds m Q Z → t__law_product sp__law_mark { nx := fun _ m => Q .non m, rt := Q, rz := fun x _ m => Z x m } (startE 6 ds) m) :
    DefOk P w K mg base RD 2 "_law_product" ["_law_rows_here", "_law_s", "_law_t", "_law_p"] sp := by
  have nd := (sc__law_product).nd
  exact DefOk.mk' (k := 1) (t := t__law_product sp__law_mark) T.f__law_product sc__law_product (fun _ _ _ _ _ _ us hl => match us, hl with | [_, _, _, _], _ => rfl) (fun f cdv A outer s H E hr hG tk =>
    (dss_cons (ds_set (i := 4) nd rfl (Or.inl rfl) de_int)
    (dss_cons (ds_for (passes_of rfl) rfl (di_list (de_var (pv 0))) (dg_name (i := 5) nd rfl (by first | exact Or.inl rfl | exact Or.inr rfl)) (dss_one (ds_set (i := 4) nd rfl (Or.inl rfl) (de_mod (de_toInt rfl T.no_int (da_cons (de_mul (de_var (pv 4)) (de_sub (de_var (pv 2)) (de_call D__law_mark (hr.mono (by decide)) hG rfl tk (da_cons (de_var (pv 5)) (da_cons (de_var (pv 1)) (da_cons (de_var (pv 3)) da_nil)))))) da_nil)) (de_var (pv 3))))))
    (dss_one (ds_ret (de_mod (de_toInt rfl T.no_int (da_cons (de_var (pv 4)) da_nil)) (de_var (pv 3)))))))) hsp
abbrev b1__law_turned (sp__law_draw : SpD RD) : TSd RD := (sDrop (eOwnM 3 (aCons (eOwnM 2 (aCons (eCall sp__law_draw (aCons (eVar 0) (aCons (eCl dLen (aCons (eVar 2) aNil)) aNil))) aNil) fPopAt) aNil) fAppend))
abbrev t__law_turned (sp__law_draw : SpD RD) : TSd RD := (sSeq (sOwn 2 (eClO dListO (aCons (eVar 1) aNil)))
    (sSeq (sOwn 3 (eLst aNil))
    (sSeq (sWhile (bOf (eOp dGt (eCl dLen (aCons (eVar 2) aNil)) (eC (.int 0)))) (b1__law_turned sp__law_draw))
    (sRet (eIce 3)))))
theorem sc__law_turned : FnScope ["_law_state_here", "_law_rows_here", "_law_left", "_law_found"] ["_law_state_here", "_law_rows_here"] (defScope s__law_turned) := ⟨rfl, rfl, rfl, by decide +kernel, rfl, by decide +kernel, by decide +kernel⟩
theorem dv__law_turned (T : Txt K mg) {sp__law_draw : SpD RD} (D__law_draw : DefOk P w K mg base RD 1 "_law_draw" ["_law_state_here", "_law_many"] sp__law_draw) {sp : SpD RD} (hsp : ∀ ds m Q Z, ds.length = 2 → sp ds m Q Z → t__law_turned sp__law_draw { nx := fun _ m => Q .non m, rt := Q, rz := fun x _ m => Z x m } (startE 4 ds) m) :
    DefOk P w K mg base RD 2 "_law_turned" ["_law_state_here", "_law_rows_here"] sp := by
  have nd := (sc__law_turned).nd
  exact DefOk.mk' (k := 1) (t := t__law_turned sp__law_draw) T.f__law_turned sc__law_turned (fun _ _ _ _ _ _ us hl => match us, hl with | [_, _], _ => rfl) (fun f cdv A outer s H E hr hG tk =>
    (dss_cons (ds_own (i := 2) nd rfl (Or.inl rfl) (do_list rfl T.no_list (da_cons (de_var (pv 1)) da_nil)))
    (dss_cons (ds_own (i := 3) nd rfl (Or.inl rfl) (do_lst da_nil))
    (dss_cons (ds_while (passes_of rfl) (dt_gt (de_len rfl T.no_len (da_cons (de_var (pv 2)) da_nil)) de_int) (dss_one (ds_expr (de_append (pv 3) (da_cons (de_popAt (pv 2) (da_cons (de_call D__law_draw (hr.mono (by decide)) hG rfl tk (da_cons (de_var (pv 0)) (da_cons (de_len rfl T.no_len (da_cons (de_var (pv 2)) da_nil)) da_nil))) da_nil)) da_nil)))))
    (dss_one (ds_ret (de_ice (pv 3)))))))) hsp
abbrev t__law_times : TSd RD := (sRet (eCl dLen (aCons (eFz (eLc (iLst (eVar 0)) (tName 2) (bOf (eOp dEq (eVar 2) (eVar 1))) (eVar 2) [2])) aNil)))
theorem sc__law_times : FnScope ["_law_rows_here", "_law_row", "_law_other"] ["_law_rows_here", "_law_row"] (defScope s__law_times) := ⟨rfl, rfl, rfl, by decide +kernel, rfl, by decide +kernel, by decide +kernel⟩
theorem dv__law_times (T : Txt K mg) {sp : SpD RD} (hsp : ∀ ds m Q Z, ds.length = 2 → sp ds m Q Z → t__law_times { nx := fun _ m => Q .non m, rt := Q, rz := fun x _ m => Z x m } (startE 3 ds) m) :
    DefOk P w K mg base RD 1 "_law_times" ["_law_rows_here", "_law_row"] sp := by
  have nd := (sc__law_times).nd
  exact DefOk.mk' (k := 0) (t := t__law_times) T.f__law_times sc__law_times (fun _ _ _ _ _ _ us hl => match us, hl with | [_, _], _ => rfl) (fun f cdv A outer s H E hr hG tk =>
    (dss_one (ds_ret (de_len rfl T.no_len (da_cons (DO.fz (do_lc (own := [("_law_other", 2)]) rfl nd (di_list (de_var (pv 0))) (blkOk_by (own := [("_law_other", 2)]) (by kernel_rfl)) (fun _ => (dg_name (i := 2) nd rfl (by first | exact Or.inl rfl | exact Or.inr rfl))) (fun _ => (dts_one (dt_eq hr.units (de_var (pv 2)) (de_var (pv 1))))) (fun _ => (de_var (pv 2))) (by decide))) da_nil))))) hsp
abbrev t__law_changed (sp__law_draw : SpD RD) : TSd RD := (sSeq (sSet 3 (eFz (eLc (iLst (eVar 1)) (tName 6) bYes (eNew (eClO dListO (aCons (eVar 6) aNil))) [6])))
    (sSeq (sSet 4 (eCall sp__law_draw (aCons (eVar 0) (aCons (eC (.int 4)) aNil))))
    (sSeq (sIf (bOr (bOf (eOp dEq (eCl dLen (aCons (eVar 3) aNil)) (eC (.int 0)))) (bOf (eOp dEq (eVar 4) (eC (.int 0))))) (sRet (eRes (eVar 3))) sNext)
    (sSeq (sSet 5 (eCall sp__law_draw (aCons (eVar 0) (aCons (eCl dLen (aCons (eVar 3) aNil)) aNil))))
    (sSeq (sIf (bOf (eOp dEq (eVar 4) (eC (.int 1)))) (sRet (eRes (eOp dAdd (eSl (eVar 3) pNo (pSome (eVar 5))) (eSl (eVar 3) (pSome (eOp dAdd (eVar 5) (eC (.int 1)))) pNo)))) sNext)
    (sSeq (sSet 6 (eOp dIx (eVar 3) (eVar 5)))
    (sSeq (sPutC (eVar 6) (eCall sp__law_draw (aCons (eVar 0) (aCons (eCl dLen (aCons (eVar 6) aNil)) aNil))) (eCall sp__law_draw (aCons (eVar 0) (aCons (eVar 2) aNil))))
    (sRet (eRes (eVar 3))))))))))
theorem sc__law_changed : FnScope ["_law_state_here", "_law_rows_here", "_law_p", "_law_other", "_law_kind", "_law_k", "_law_row"] ["_law_state_here", "_law_rows_here", "_law_p"] (defScope s__law_changed) := ⟨rfl, rfl, rfl, by decide +kernel, rfl, by decide +kernel, by decide +kernel⟩
theorem dv__law_changed (T : Txt K mg) {sp__law_draw : SpD RD} (D__law_draw : DefOk P w K mg base RD 1 "_law_draw" ["_law_state_here", "_law_many"] sp__law_draw) {sp : SpD RD} (hsp : ∀ ds m Q Z, ds.length = 3 → sp ds m Q Z → t__law_changed sp__law_draw { nx := fun _ m => Q .non m, rt := Q, rz := fun x _ m => Z x m } (startE 7 ds) m) :
    DefOk P w K mg base RD 2 "_law_changed" ["_law_state_here", "_law_rows_here", "_law_p"] sp := by
  have nd := (sc__law_changed).nd
  exact DefOk.mk' (k := 1) (t := t__law_changed sp__law_draw) T.f__law_changed sc__law_changed (fun _ _ _ _ _ _ us hl => match us, hl with | [_, _, _], _ => rfl) (fun f cdv A outer s H E hr hG tk =>
    (dss_cons (ds_lcDat (i := 3) (own := [("_law_row", 6)]) rfl nd rfl rfl (sw_true rfl rfl rfl (by kernel_rfl)) (di_list (de_var (pv 1))) (blkOk_by (own := [("_law_row", 6)]) (by kernel_rfl)) (fun _ => (dg_name (i := 6) nd rfl (by first | exact Or.inl rfl | exact Or.inr rfl))) (fun _ => dts_nil) (fun _ => (DO.cell (do_list rfl T.no_list (da_cons (de_var (pv 6)) da_nil)))) (by decide))
    (dss_cons (ds_set (i := 4) nd rfl (Or.inl rfl) (de_call D__law_draw (hr.mono (by decide)) hG rfl tk (da_cons (de_var (pv 0)) (da_cons de_int da_nil))))
    (dss_cons (ds_if (DW.pt (dw_or (dt_eq hr.units (de_len rfl T.no_len (da_cons (de_var (pv 3)) da_nil)) de_int) (dw_or1 (dt_eq hr.units (de_var (pv 4)) de_int)))) (dss_one (ds_ret (de_res (de_var (pv 3))))) dss_nil)
    (dss_cons (ds_set (i := 5) nd rfl (Or.inl rfl) (de_call D__law_draw (hr.mono (by decide)) hG rfl tk (da_cons (de_var (pv 0)) (da_cons (de_len rfl T.no_len (da_cons (de_var (pv 3)) da_nil)) da_nil))))
    (dss_cons (ds_if (dt_eq hr.units (de_var (pv 4)) de_int) (dss_one (ds_ret (de_res (de_add (de_slice (de_var (pv 3)) dp_none (dp_some (de_var (pv 5)))) (de_slice (de_var (pv 3)) (dp_some (de_add (de_var (pv 5)) de_int)) dp_none))))) dss_nil)
    (dss_cons (ds_set (i := 6) nd rfl (Or.inl rfl) (de_at (de_var (pv 3)) (de_var (pv 5))))
    (dss_cons (ds_putC (de_var (pv 6)) (de_call D__law_draw (hr.mono (by decide)) hG rfl tk (da_cons (de_var (pv 0)) (da_cons (de_len rfl T.no_len (da_cons (de_var (pv 6)) da_nil)) da_nil))) (de_call D__law_draw (hr.mono (by decide)) hG rfl tk (da_cons (de_var (pv 0)) (da_cons (de_var (pv 2)) da_nil))))
    (dss_one (ds_ret (de_res (de_var (pv 3))))))))))))) hsp
abbrev b1__law_among_right (sp__law_draw : SpD RD) (sp__law_times : SpD RD) (sp_among : SpD RD) (sp__law_product : SpD RD) : TSd RD := (sIf (bOf (eOp dNotIn (eVar 6) (eVar 5))) (sDrop (eOwnM 5 (aCons (eVar 6) aNil) fAppend)) sNext)
abbrev b2__law_among_right (sp__law_draw : SpD RD) (sp__law_times : SpD RD) (sp_among : SpD RD) (sp__law_product : SpD RD) : TSd RD := (sSet 12 (eOp dAdd (eVar 12) (eFz (eLc (iRange1 (aCons (eOp dIx (eVar 11) (eVar 13)) aNil)) (tName 16) bYes (eOp dIx (eVar 5) (eVar 13)) [16]))))
abbrev t__law_among_right (sp__law_draw : SpD RD) (sp__law_times : SpD RD) (sp_among : SpD RD) (sp__law_product : SpD RD) : TSd RD := (sSeq (sOwn 5 (eLst aNil))
    (sSeq (sFor (iLst (eOp dAdd (eVar 1) (eFz (eLst (aCons (eFz (eLc (iRange1 (aCons (eCl dMaxL (aCons (eOp dAdd (eFz (eLst (aCons (eC (.int 1)) aNil))) (eFz (eLc (iLst (eVar 1)) (tName 6) bYes (eCl dLen (aCons (eVar 6) aNil)) [6]))) aNil)) aNil)) (tName 8) bYes (eCall sp__law_draw (aCons (eVar 0) (aCons (eVar 4) aNil))) [8])) aNil))))) (tName 6) (b1__law_among_right sp__law_draw sp__law_times sp_among sp__law_product))
    (sSeq (sSet 7 (eFz (eLc (iLst (eIce 5)) (tName 6) bYes (eCall sp__law_times (aCons (eVar 1) (aCons (eVar 6) aNil))) [6])))
    (sSeq (sIf (bOf (eOp dIsNot (eCall sp_among (aCons (eVar 1) (aCons (eIce 5) (aCons (eVar 7) (aCons (eVar 2) (aCons (eVar 3) (aCons (eVar 4) aNil))))))) (eC (.bl true)))) (sRet (eC (.bl false))) sNext)
    (sSeq (sSet 8 (eCall sp__law_draw (aCons (eVar 0) (aCons (eCl dLen (aCons (eVar 7) aNil)) aNil))))
    (sSeq (sSet 9 (eOp dAdd (eOp dAdd (eSl (eVar 7) pNo (pSome (eVar 8))) (eFz (eLst (aCons (eOp dAdd (eOp dAdd (eOp dIx (eVar 7) (eVar 8)) (eC (.int 1))) (eCall sp__law_draw (aCons (eVar 0) (aCons (eC (.int 3)) aNil)))) aNil)))) (eSl (eVar 7) (pSome (eOp dAdd (eVar 8) (eC (.int 1)))) pNo)))
    (sSeq (sSet 10 (eCall sp__law_draw (aCons (eVar 0) (aCons (eCl dLen (aCons (eVar 7) aNil)) aNil))))
    (sSeq (sOwn 11 (eClO dListO (aCons (eVar 7) aNil)))
    (sSeq (sPut 11 (eVar 8) (eOp dAdd (eOp dIx (eVar 11) (eVar 8)) (eC (.int 1))))
    (sSeq (sPut 11 (eVar 10) (eCl dMax2 (aCons (eC (.int 0)) (aCons (eOp dSub (eOp dIx (eVar 11) (eVar 10)) (eC (.int 1))) aNil))))
    (sSeq (sSet 12 (eFz (eLst aNil)))
    (sSeq (sFor (iRange1 (aCons (eCl dLen (aCons (eVar 5) aNil)) aNil)) (tName 13) (b2__law_among_right sp__law_draw sp__law_times sp_among sp__law_product))
    (sSeq (sSet 14 (eAnd (eOp dEq (eCl dLen (aCons (eVar 12) aNil)) (eCl dLen (aCons (eVar 1) aNil))) (eOp dEq (eCall sp__law_product (aCons (eVar 12) (aCons (eVar 2) (aCons (eVar 3) (aCons (eVar 4) aNil))))) (eCall sp__law_product (aCons (eVar 1) (aCons (eVar 2) (aCons (eVar 3) (aCons (eVar 4) aNil))))))))
    (sSeq (sIf (bOr (bOf (eOp dIsNot (eCall sp_among (aCons (eVar 1) (aCons (eIce 5) (aCons (eVar 9) (aCons (eVar 2) (aCons (eVar 3) (aCons (eVar 4) aNil))))))) (eC (.bl false)))) (bOf (eOp dIsNot (eCall sp_among (aCons (eVar 1) (aCons (eIce 5) (aCons (eSl (eVar 7) (pSome (eC (.int 1))) pNo) (aCons (eVar 2) (aCons (eVar 3) (aCons (eVar 4) aNil))))))) (eC (.bl false))))) (sRet (eC (.bl false))) sNext)
    (sSeq (sSet 15 (eCall sp_among (aCons (eVar 1) (aCons (eIce 5) (aCons (eIce 11) (aCons (eVar 2) (aCons (eVar 3) (aCons (eVar 4) aNil))))))))
    (sRet (eAnd (eIsi .bl (eVar 15)) (eOp dEq (eVar 15) (eVar 14)))))))))))))))))))
theorem sc__law_among_right : FnScope ["_law_state_here", "_law_rows_here", "_law_s", "_law_t", "_law_p", "_law_table", "_law_row", "_law_counts", "_law_k", "_law_other", "_law_j", "_law_moved", "_law_due", "_law_i", "_law_right", "_law_told", "_law_turn"] ["_law_state_here", "_law_rows_here", "_law_s", "_law_t", "_law_p"] (defScope s__law_among_right) := ⟨rfl, rfl, rfl, by decide +kernel, rfl, by decide +kernel, by decide +kernel⟩
theorem dv__law_among_right (T : Txt K mg) {sp__law_draw : SpD RD} (D__law_draw : DefOk P w K mg base RD 1 "_law_draw" ["_law_state_here", "_law_many"] sp__law_draw) {sp__law_times : SpD RD} (D__law_times : DefOk P w K mg base RD 1 "_law_times" ["_law_rows_here", "_law_row"] sp__law_times) {sp_among : SpD RD} (D_among : DefOk P w K mg base RD 3 "among" ["rows", "table", "counts", "s", "t", "p"] sp_among) {sp__law_product : SpD RD} (D__law_product : DefOk P w K mg base RD 2 "_law_product" ["_law_rows_here", "_law_s", "_law_t", "_law_p"] sp__law_product) {sp : SpD RD} (hsp : ∀ ds m Q Z, ds.length = 5 → sp ds m Q Z → t__law_among_right sp__law_draw sp__law_times sp_among sp__law_product { nx := fun _ m => Q .non m, rt := Q, rz := fun x _ m => Z x m } (startE 17 ds) m) :
    DefOk P w K mg base RD 4 "_law_among_right" ["_law_state_here", "_law_rows_here", "_law_s", "_law_t", "_law_p"] sp := by
  have nd := (sc__law_among_right).nd
  exact DefOk.mk' (k := 3) (t := t__law_among_right sp__law_draw sp__law_times sp_among sp__law_product) T.f__law_among_right sc__law_among_right (fun _ _ _ _ _ _ us hl => match us, hl with | [_, _, _, _, _], _ => rfl) (fun f cdv A outer s H E hr hG tk =>
    (dss_cons (ds_own (i := 5) nd rfl (Or.inr rfl) (do_lst da_nil))
    (dss_cons (ds_for (passes_of rfl) rfl (di_list (de_add (de_var (pv 1)) (DO.fz (do_lst (da_cons (DO.fz (do_lc (own := [("_law_k", 8)]) rfl nd (di_range1 rfl T.no_range (da_cons (de_maxL rfl rfl T.no_max (da_cons (de_add (DO.fz (do_lst (da_cons de_int da_nil))) (DO.fz (do_lc (own := [("_law_row", 6)]) rfl nd (di_list (de_var (pv 1))) (blkOk_by (own := [("_law_row", 6)]) (by kernel_rfl)) (fun _ => (dg_name (i := 6) nd rfl (by first | exact Or.inl rfl | exact Or.inr rfl))) (fun _ => dts_nil) (fun _ => (de_len rfl T.no_len (da_cons (de_var (pv 6)) da_nil))) (by decide)))) da_nil)) da_nil)) (blkOk_by (own := [("_law_k", 8)]) (by kernel_rfl)) (fun _ => (dg_name (i := 8) nd rfl (by first | exact Or.inl rfl | exact Or.inr rfl))) (fun _ => dts_nil) (fun _ => (de_call D__law_draw (hr.mono (by decide)) hG rfl takes0 (da_cons (de_var (pv 0)) (da_cons (de_var (pv 4)) da_nil)))) (by decide))) da_nil))))) (dg_name (i := 6) nd rfl (by first | exact Or.inl rfl | exact Or.inr rfl)) (dss_one (ds_if (dt_notin (u65 hr) (de_var (pv 6)) (de_var (pv 5))) (dss_one (ds_expr (de_append (pv 5) (da_cons (de_var (pv 6)) da_nil)))) dss_nil)))
    (dss_cons (ds_lcDat (i := 7) (own := [("_law_row", 6)]) rfl nd rfl rfl (sw_true rfl rfl rfl (by kernel_rfl)) (di_list (de_ice (pv 5))) (blkOk_by (own := [("_law_row", 6)]) (by kernel_rfl)) (fun _ => (dg_name (i := 6) nd rfl (by first | exact Or.inl rfl | exact Or.inr rfl))) (fun _ => dts_nil) (fun _ => (de_call D__law_times (hr.mono (by decide)) hG rfl takes0 (da_cons (de_var (pv 1)) (da_cons (de_var (pv 6)) da_nil)))) (by decide))
    (dss_cons (ds_if (dt_isnot (de_call D_among (hr.mono (by decide)) hG rfl tk (da_cons (de_var (pv 1)) (da_cons (de_ice (pv 5)) (da_cons (de_var (pv 7)) (da_cons (de_var (pv 2)) (da_cons (de_var (pv 3)) (da_cons (de_var (pv 4)) da_nil))))))) de_bl) (dss_one (ds_ret de_bl)) dss_nil)
    (dss_cons (ds_set (i := 8) nd rfl (Or.inl rfl) (de_call D__law_draw (hr.mono (by decide)) hG rfl tk (da_cons (de_var (pv 0)) (da_cons (de_len rfl T.no_len (da_cons (de_var (pv 7)) da_nil)) da_nil))))
    (dss_cons (ds_set (i := 9) nd rfl (Or.inl rfl) (de_add (de_add (de_slice (de_var (pv 7)) dp_none (dp_some (de_var (pv 8)))) (DO.fz (do_lst (da_cons (de_add (de_add (de_at (de_var (pv 7)) (de_var (pv 8))) de_int) (de_call D__law_draw (hr.mono (by decide)) hG rfl tk (da_cons (de_var (pv 0)) (da_cons de_int da_nil)))) da_nil)))) (de_slice (de_var (pv 7)) (dp_some (de_add (de_var (pv 8)) de_int)) dp_none)))
    (dss_cons (ds_set (i := 10) nd rfl (Or.inl rfl) (de_call D__law_draw (hr.mono (by decide)) hG rfl tk (da_cons (de_var (pv 0)) (da_cons (de_len rfl T.no_len (da_cons (de_var (pv 7)) da_nil)) da_nil))))
    (dss_cons (ds_own (i := 11) nd rfl (Or.inl rfl) (do_list rfl T.no_list (da_cons (de_var (pv 7)) da_nil)))
    (dss_cons (ds_put (pv 11) (de_var (pv 8)) (de_add (de_at (de_var (pv 11)) (de_var (pv 8))) de_int))
    (dss_cons (ds_put (pv 11) (de_var (pv 10)) (de_max2 rfl rfl T.no_max (da_cons de_int (da_cons (de_sub (de_at (de_var (pv 11)) (de_var (pv 10))) de_int) da_nil))))
    (dss_cons (ds_set (i := 12) nd rfl (Or.inl rfl) (DO.fz (do_lst da_nil)))
    (dss_cons (ds_for (passes_of rfl) rfl (di_range1 rfl T.no_range (da_cons (de_len rfl T.no_len (da_cons (de_var (pv 5)) da_nil)) da_nil)) (dg_name (i := 13) nd rfl (by first | exact Or.inl rfl | exact Or.inr rfl)) (dss_one (ds_set (i := 12) nd rfl (Or.inl rfl) (de_add (de_var (pv 12)) (DO.fz (do_lc (own := [("_law_turn", 16)]) rfl nd (di_range1 rfl T.no_range (da_cons (de_at (de_var (pv 11)) (de_var (pv 13))) da_nil)) (blkOk_by (own := [("_law_turn", 16)]) (by kernel_rfl)) (fun _ => (dg_name (i := 16) nd rfl (by first | exact Or.inl rfl | exact Or.inr rfl))) (fun _ => dts_nil) (fun _ => (de_at (de_var (pv 5)) (de_var (pv 13)))) (by decide)))))))
    (dss_cons (ds_set (i := 14) nd rfl (Or.inl rfl) (de_and (de_eq hr.units (de_len rfl T.no_len (da_cons (de_var (pv 12)) da_nil)) (de_len rfl T.no_len (da_cons (de_var (pv 1)) da_nil))) (de_one (de_eq hr.units (de_call D__law_product (hr.mono (by decide)) hG rfl tk (da_cons (de_var (pv 12)) (da_cons (de_var (pv 2)) (da_cons (de_var (pv 3)) (da_cons (de_var (pv 4)) da_nil))))) (de_call D__law_product (hr.mono (by decide)) hG rfl tk (da_cons (de_var (pv 1)) (da_cons (de_var (pv 2)) (da_cons (de_var (pv 3)) (da_cons (de_var (pv 4)) da_nil)))))))))
    (dss_cons (ds_if (DW.pt (dw_or (dt_isnot (de_call D_among (hr.mono (by decide)) hG rfl tk (da_cons (de_var (pv 1)) (da_cons (de_ice (pv 5)) (da_cons (de_var (pv 9)) (da_cons (de_var (pv 2)) (da_cons (de_var (pv 3)) (da_cons (de_var (pv 4)) da_nil))))))) de_bl) (dw_or1 (dt_isnot (de_call D_among (hr.mono (by decide)) hG rfl tk (da_cons (de_var (pv 1)) (da_cons (de_ice (pv 5)) (da_cons (de_slice (de_var (pv 7)) (dp_some de_int) dp_none) (da_cons (de_var (pv 2)) (da_cons (de_var (pv 3)) (da_cons (de_var (pv 4)) da_nil))))))) de_bl)))) (dss_one (ds_ret de_bl)) dss_nil)
    (dss_cons (ds_set (i := 15) nd rfl (Or.inl rfl) (de_call D_among (hr.mono (by decide)) hG rfl tk (da_cons (de_var (pv 1)) (da_cons (de_ice (pv 5)) (da_cons (de_ice (pv 11)) (da_cons (de_var (pv 2)) (da_cons (de_var (pv 3)) (da_cons (de_var (pv 4)) da_nil))))))))
    (dss_one (ds_ret (de_and (de_isinst (n := .bl) rfl T.no_isinstance rfl T.no_bool (by decide +kernel) (by decide) (de_var (pv 15))) (de_one (de_eq hr.units (de_var (pv 15)) (de_var (pv 14))))))))))))))))))))))) hsp
abbrev b1__law_ascends : TSd RD := (sIf (bOf (eOp dNe (eFz (eClO dSorted (aCons (eFz (eLst (aCons (eOp dIx (eVar 0) (eVar 1)) (aCons (eOp dIx (eVar 0) (eOp dAdd (eVar 1) (eC (.int 1)))) aNil)))) aNil))) (eFz (eLst (aCons (eOp dIx (eVar 0) (eVar 1)) (aCons (eOp dIx (eVar 0) (eOp dAdd (eVar 1) (eC (.int 1)))) aNil)))))) (sRet (eC (.bl false))) sNext)
abbrev t__law_ascends : TSd RD := (sSeq (sFor (iRange1 (aCons (eOp dSub (eCl dLen (aCons (eVar 0) aNil)) (eC (.int 1))) aNil)) (tName 1) (b1__law_ascends))
    (sRet (eC (.bl true))))
theorem sc__law_ascends : FnScope ["_law_rows_here", "_law_k"] ["_law_rows_here"] (defScope s__law_ascends) := ⟨rfl, rfl, rfl, by decide +kernel, rfl, by decide +kernel, by decide +kernel⟩
theorem dv__law_ascends (T : Txt K mg) {sp : SpD RD} (hsp : ∀ ds m Q Z, ds.length = 1 → sp ds m Q Z → t__law_ascends { nx := fun _ m => Q .non m, rt := Q, rz := fun x _ m => Z x m } (startE 2 ds) m) :
    DefOk P w K mg base RD 1 "_law_ascends" ["_law_rows_here"] sp := by
  have nd := (sc__law_ascends).nd
  exact DefOk.mk' (k := 0) (t := t__law_ascends) T.f__law_ascends sc__law_ascends (fun _ _ _ _ _ _ us hl => match us, hl with | [_], _ => rfl) (fun f cdv A outer s H E hr hG tk =>
    (dss_cons (ds_for (passes_of rfl) rfl (di_range1 rfl T.no_range (da_cons (de_sub (de_len rfl T.no_len (da_cons (de_var (pv 0)) da_nil)) de_int) da_nil)) (dg_name (i := 1) nd rfl (by first | exact Or.inl rfl | exact Or.inr rfl)) (dss_one (ds_if (dt_ne hr.units (DO.fz (do_sorted hr.units rfl T.no_sorted (da_cons (DO.fz (do_lst (da_cons (de_at (de_var (pv 0)) (de_var (pv 1))) (da_cons (de_at (de_var (pv 0)) (de_add (de_var (pv 1)) de_int)) da_nil)))) da_nil))) (DO.fz (do_lst (da_cons (de_at (de_var (pv 0)) (de_var (pv 1))) (da_cons (de_at (de_var (pv 0)) (de_add (de_var (pv 1)) de_int)) da_nil))))) (dss_one (ds_ret de_bl)) dss_nil)))
    (dss_one (ds_ret de_bl)))) hsp
abbrev b1_law (sp__law_state : SpD RD) (sp__law_pick : SpD RD) (sp__law_rows : SpD RD) (sp__law_draw : SpD RD) (sp__law_turned : SpD RD) (sp__law_changed : SpD RD) (sp_mark : SpD RD) (sp__law_mark : SpD RD) (sp_product : SpD RD) (sp__law_product : SpD RD) (sp_same_bag : SpD RD) (sp__law_ascends : SpD RD) (sp_in_order : SpD RD) (sp_sorted_claim : SpD RD) (sp__law_among_right : SpD RD) : TSd RD := (sSeq (sSet 13 (eCall sp__law_ascends (aCons (eVar 12) aNil)))
    (sSeq (sSet 14 (eAnd (eOp dEq (eCl dLen (aCons (eVar 12) aNil)) (eCl dLen (aCons (eVar 4) aNil))) (eOp dEq (eCall sp__law_product (aCons (eVar 12) (aCons (eVar 5) (aCons (eVar 6) (aCons (eVar 3) aNil))))) (eCall sp__law_product (aCons (eVar 4) (aCons (eVar 5) (aCons (eVar 6) (aCons (eVar 3) aNil))))))))
    (sIf (bOr (bOf (eOp dNe (eCall sp_in_order (aCons (eVar 12) aNil)) (eVar 13))) (bOf (eOp dNe (eCall sp_sorted_claim (aCons (eVar 4) (aCons (eVar 12) (aCons (eVar 5) (aCons (eVar 6) (aCons (eVar 3) aNil)))))) (eAnd (eVar 13) (eVar 14))))) (sRet (eC (.bl false))) sNext)))
abbrev b2_law (sp__law_state : SpD RD) (sp__law_pick : SpD RD) (sp__law_rows : SpD RD) (sp__law_draw : SpD RD) (sp__law_turned : SpD RD) (sp__law_changed : SpD RD) (sp_mark : SpD RD) (sp__law_mark : SpD RD) (sp_product : SpD RD) (sp__law_product : SpD RD) (sp_same_bag : SpD RD) (sp__law_ascends : SpD RD) (sp_in_order : SpD RD) (sp_sorted_claim : SpD RD) (sp__law_among_right : SpD RD) : TSd RD := (sSeq (sSet 3 (eCall sp__law_pick (aCons (eVar 1) (aCons (eFz (eLst (aCons (eC (.int 2)) (aCons (eC (.int 3)) (aCons (eC (.int 5)) (aCons (eC (.int 7)) (aCons (eC (.int 97)) (aCons (eC (.int 65537)) (aCons (eC (.int 2147483647)) aNil))))))))) aNil))))
    (sSeq (sSet 4 (eCall sp__law_rows (aCons (eVar 1) (aCons (eCall sp__law_draw (aCons (eVar 1) (aCons (eC (.int 13)) aNil))) (aCons (eOp dAdd (eC (.int 1)) (eCall sp__law_draw (aCons (eVar 1) (aCons (eC (.int 4)) aNil)))) (aCons (eVar 3) aNil))))))
    (sSeq (sSet 5 (eCall sp__law_draw (aCons (eVar 1) (aCons (eVar 3) aNil))))
    (sSeq (sSet 6 (eCall sp__law_draw (aCons (eVar 1) (aCons (eVar 3) aNil))))
    (sSeq (sSet 7 (eCl dRepr (aCons (eVar 4) aNil)))
    (sSeq (sSet 8 (eCall sp__law_turned (aCons (eVar 1) (aCons (eVar 4) aNil))))
    (sSeq (sSet 9 (eCall sp__law_changed (aCons (eVar 1) (aCons (eVar 8) (aCons (eVar 3) aNil)))))
    (sSeq (sIf (bOf (eOp dNe (eFz (eLc (iLst (eVar 4)) (tName 15) bYes (eCall sp_mark (aCons (eVar 15) (aCons (eVar 5) (aCons (eVar 3) aNil)))) [15])) (eFz (eLc (iLst (eVar 4)) (tName 15) bYes (eCall sp__law_mark (aCons (eVar 15) (aCons (eVar 5) (aCons (eVar 3) aNil)))) [15])))) (sRet (eC (.bl false))) sNext)
    (sSeq (sIf (bOr (bOf (eOp dNe (eCall sp_product (aCons (eVar 4) (aCons (eVar 5) (aCons (eVar 6) (aCons (eVar 3) aNil))))) (eCall sp__law_product (aCons (eVar 4) (aCons (eVar 5) (aCons (eVar 6) (aCons (eVar 3) aNil))))))) (bOf (eOp dIsNot (eCall sp_same_bag (aCons (eVar 4) (aCons (eVar 8) (aCons (eVar 5) (aCons (eVar 6) (aCons (eVar 3) aNil)))))) (eC (.bl true))))) (sRet (eC (.bl false))) sNext)
    (sSeq (sSet 10 (eAnd (eOp dEq (eCl dLen (aCons (eVar 9) aNil)) (eCl dLen (aCons (eVar 4) aNil))) (eOp dEq (eCall sp__law_product (aCons (eVar 9) (aCons (eVar 5) (aCons (eVar 6) (aCons (eVar 3) aNil))))) (eCall sp__law_product (aCons (eVar 4) (aCons (eVar 5) (aCons (eVar 6) (aCons (eVar 3) aNil))))))))
    (sSeq (sSet 11 (eCall sp_same_bag (aCons (eVar 4) (aCons (eVar 9) (aCons (eVar 5) (aCons (eVar 6) (aCons (eVar 3) aNil)))))))
    (sSeq (sIf (bOr (bNot (bOf (eIsi .bl (eVar 11)))) (bOf (eOp dNe (eVar 11) (eVar 10)))) (sRet (eC (.bl false))) sNext)
    (sSeq (sFor (iLst (eFz (eLst (aCons (eVar 8) (aCons (eFz (eClO dSorted (aCons (eVar 8) aNil))) (aCons (eVar 9) (aCons (eFz (eClO dSorted (aCons (eVar 9) aNil))) aNil))))))) (tName 12) (b1_law sp__law_state sp__law_pick sp__law_rows sp__law_draw sp__law_turned sp__law_changed sp_mark sp__law_mark sp_product sp__law_product sp_same_bag sp__law_ascends sp_in_order sp_sorted_claim sp__law_among_right))
    (sIf (bOr (bNot (bOf (eCall sp__law_among_right (aCons (eVar 1) (aCons (eVar 4) (aCons (eVar 5) (aCons (eVar 6) (aCons (eVar 3) aNil)))))))) (bOf (eOp dNe (eCl dRepr (aCons (eVar 4) aNil)) (eVar 7)))) (sRet (eC (.bl false))) sNext))))))))))))))
abbrev t_law (sp__law_state : SpD RD) (sp__law_pick : SpD RD) (sp__law_rows : SpD RD) (sp__law_draw : SpD RD) (sp__law_turned : SpD RD) (sp__law_changed : SpD RD) (sp_mark : SpD RD) (sp__law_mark : SpD RD) (sp_product : SpD RD) (sp__law_product : SpD RD) (sp_same_bag : SpD RD) (sp__law_ascends : SpD RD) (sp_in_order : SpD RD) (sp_sorted_claim : SpD RD) (sp__law_among_right : SpD RD) : TSd RD := (sSeq (sSet 1 (eCall sp__law_state (aCons (eVar 0) aNil)))
    (sSeq (sFor (iLst (eOp dAdd (eFz (eLst (aCons (eC (.int 0)) aNil))) (eSl (eVar 0) pNo (pSome (eC (.int 8)))))) (tName 2) (b2_law sp__law_state sp__law_pick sp__law_rows sp__law_draw sp__law_turned sp__law_changed sp_mark sp__law_mark sp_product sp__law_product sp_same_bag sp__law_ascends sp_in_order sp_sorted_claim sp__law_among_right))
    (sRet (eC (.bl true)))))
theorem sc_law : FnScope ["_law_script", "_law_state_here", "_law_cell", "_law_p", "_law_rows_here", "_law_s", "_law_t", "_law_before", "_law_turned_here", "_law_other", "_law_due", "_law_told", "_law_outputs", "_law_ascends_here", "_law_believed", "_law_row"] ["_law_script"] (defScope s_law) := ⟨rfl, rfl, rfl, by decide +kernel, rfl, by decide +kernel, by decide +kernel⟩
theorem dv_law (T : Txt K mg) {sp__law_state : SpD RD} (D__law_state : DefOk P w K mg base RD 1 "_law_state" ["_law_script"] sp__law_state) {sp__law_pick : SpD RD} (D__law_pick : DefOk P w K mg base RD 2 "_law_pick" ["_law_state_here", "_law_row"] sp__law_pick) {sp__law_rows : SpD RD} (D__law_rows : DefOk P w K mg base RD 3 "_law_rows" ["_law_state_here", "_law_many", "_law_width", "_law_p"] sp__law_rows) {sp__law_draw : SpD RD} (D__law_draw : DefOk P w K mg base RD 1 "_law_draw" ["_law_state_here", "_law_many"] sp__law_draw) {sp__law_turned : SpD RD} (D__law_turned : DefOk P w K mg base RD 2 "_law_turned" ["_law_state_here", "_law_rows_here"] sp__law_turned) {sp__law_changed : SpD RD} (D__law_changed : DefOk P w K mg base RD 2 "_law_changed" ["_law_state_here", "_law_rows_here", "_law_p"] sp__law_changed) {sp_mark : SpD RD} (D_mark : DefOk P w K mg base RD 1 "mark" ["row", "s", "p"] sp_mark) {sp__law_mark : SpD RD} (D__law_mark : DefOk P w K mg base RD 1 "_law_mark" ["_law_row", "_law_s", "_law_p"] sp__law_mark) {sp_product : SpD RD} (D_product : DefOk P w K mg base RD 2 "product" ["rows", "s", "t", "p"] sp_product) {sp__law_product : SpD RD} (D__law_product : DefOk P w K mg base RD 2 "_law_product" ["_law_rows_here", "_law_s", "_law_t", "_law_p"] sp__law_product) {sp_same_bag : SpD RD} (D_same_bag : DefOk P w K mg base RD 3 "same_bag" ["rows", "others", "s", "t", "p"] sp_same_bag) {sp__law_ascends : SpD RD} (D__law_ascends : DefOk P w K mg base RD 1 "_law_ascends" ["_law_rows_here"] sp__law_ascends) {sp_in_order : SpD RD} (D_in_order : DefOk P w K mg base RD 1 "in_order" ["rows"] sp_in_order) {sp_sorted_claim : SpD RD} (D_sorted_claim : DefOk P w K mg base RD 4 "sorted_claim" ["rows", "outputs", "s", "t", "p"] sp_sorted_claim) {sp__law_among_right : SpD RD} (D__law_among_right : DefOk P w K mg base RD 4 "_law_among_right" ["_law_state_here", "_law_rows_here", "_law_s", "_law_t", "_law_p"] sp__law_among_right) {sp : SpD RD} (hsp : ∀ ds m Q Z, ds.length = 1 → sp ds m Q Z → t_law sp__law_state sp__law_pick sp__law_rows sp__law_draw sp__law_turned sp__law_changed sp_mark sp__law_mark sp_product sp__law_product sp_same_bag sp__law_ascends sp_in_order sp_sorted_claim sp__law_among_right { nx := fun _ m => Q .non m, rt := Q, rz := fun x _ m => Z x m } (startE 16 ds) m) :
    DefOk P w K mg base RD 5 "law" ["_law_script"] sp := by
  have nd := (sc_law).nd
  exact DefOk.mk' (k := 4) (t := t_law sp__law_state sp__law_pick sp__law_rows sp__law_draw sp__law_turned sp__law_changed sp_mark sp__law_mark sp_product sp__law_product sp_same_bag sp__law_ascends sp_in_order sp_sorted_claim sp__law_among_right) T.f_law sc_law (fun _ _ _ _ _ _ us hl => match us, hl with | [_], _ => rfl) (fun f cdv A outer s H E hr hG tk =>
    (dss_cons (ds_set (i := 1) nd rfl (Or.inl rfl) (de_call D__law_state (hr.mono (by decide)) hG rfl tk (da_cons (de_var (pv 0)) da_nil)))
    (dss_cons (ds_for (passes_of rfl) rfl (di_list (de_add (DO.fz (do_lst (da_cons de_int da_nil))) (de_slice (de_var (pv 0)) dp_none (dp_some de_int)))) (dg_name (i := 2) nd rfl (by first | exact Or.inl rfl | exact Or.inr rfl)) (dss_cons (ds_set (i := 3) nd rfl (Or.inr rfl) (de_call D__law_pick (hr.mono (by decide)) hG rfl tk (da_cons (de_var (pv 1)) (da_cons (DO.fz (do_lst (da_cons de_int (da_cons de_int (da_cons de_int (da_cons de_int (da_cons de_int (da_cons de_int (da_cons de_int da_nil))))))))) da_nil))))
    (dss_cons (ds_set (i := 4) nd rfl (Or.inl rfl) (de_call D__law_rows (hr.mono (by decide)) hG rfl tk (da_cons (de_var (pv 1)) (da_cons (de_call D__law_draw (hr.mono (by decide)) hG rfl tk (da_cons (de_var (pv 1)) (da_cons de_int da_nil))) (da_cons (de_add de_int (de_call D__law_draw (hr.mono (by decide)) hG rfl tk (da_cons (de_var (pv 1)) (da_cons de_int da_nil)))) (da_cons (de_var (pv 3)) da_nil))))))
    (dss_cons (ds_set (i := 5) nd rfl (Or.inr rfl) (de_call D__law_draw (hr.mono (by decide)) hG rfl tk (da_cons (de_var (pv 1)) (da_cons (de_var (pv 3)) da_nil))))
    (dss_cons (ds_set (i := 6) nd rfl (Or.inl rfl) (de_call D__law_draw (hr.mono (by decide)) hG rfl tk (da_cons (de_var (pv 1)) (da_cons (de_var (pv 3)) da_nil))))
    (dss_cons (ds_set (i := 7) nd rfl (Or.inl rfl) (de_repr hG hr.units rfl T.no_repr (da_cons (de_var (pv 4)) da_nil)))
    (dss_cons (ds_set (i := 8) nd rfl (Or.inl rfl) (de_call D__law_turned (hr.mono (by decide)) hG rfl tk (da_cons (de_var (pv 1)) (da_cons (de_var (pv 4)) da_nil))))
    (dss_cons (ds_set (i := 9) nd rfl (Or.inl rfl) (de_call D__law_changed (hr.mono (by decide)) hG rfl tk (da_cons (de_var (pv 1)) (da_cons (de_var (pv 8)) (da_cons (de_var (pv 3)) da_nil)))))
    (dss_cons (ds_if (dt_ne hr.units (DO.fz (do_lc (own := [("_law_row", 15)]) rfl nd (di_list (de_var (pv 4))) (blkOk_by (own := [("_law_row", 15)]) (by kernel_rfl)) (fun _ => (dg_name (i := 15) nd rfl (by first | exact Or.inl rfl | exact Or.inr rfl))) (fun _ => dts_nil) (fun _ => (de_call D_mark (hr.mono (by decide)) hG rfl takes0 (da_cons (de_var (pv 15)) (da_cons (de_var (pv 5)) (da_cons (de_var (pv 3)) da_nil))))) (by decide))) (DO.fz (do_lc (own := [("_law_row", 15)]) rfl nd (di_list (de_var (pv 4))) (blkOk_by (own := [("_law_row", 15)]) (by kernel_rfl)) (fun _ => (dg_name (i := 15) nd rfl (by first | exact Or.inl rfl | exact Or.inr rfl))) (fun _ => dts_nil) (fun _ => (de_call D__law_mark (hr.mono (by decide)) hG rfl takes0 (da_cons (de_var (pv 15)) (da_cons (de_var (pv 5)) (da_cons (de_var (pv 3)) da_nil))))) (by decide)))) (dss_one (ds_ret de_bl)) dss_nil)
    (dss_cons (ds_if (DW.pt (dw_or (dt_ne hr.units (de_call D_product (hr.mono (by decide)) hG rfl tk (da_cons (de_var (pv 4)) (da_cons (de_var (pv 5)) (da_cons (de_var (pv 6)) (da_cons (de_var (pv 3)) da_nil))))) (de_call D__law_product (hr.mono (by decide)) hG rfl tk (da_cons (de_var (pv 4)) (da_cons (de_var (pv 5)) (da_cons (de_var (pv 6)) (da_cons (de_var (pv 3)) da_nil)))))) (dw_or1 (dt_isnot (de_call D_same_bag (hr.mono (by decide)) hG rfl tk (da_cons (de_var (pv 4)) (da_cons (de_var (pv 8)) (da_cons (de_var (pv 5)) (da_cons (de_var (pv 6)) (da_cons (de_var (pv 3)) da_nil)))))) de_bl)))) (dss_one (ds_ret de_bl)) dss_nil)
    (dss_cons (ds_set (i := 10) nd rfl (Or.inl rfl) (de_and (de_eq hr.units (de_len rfl T.no_len (da_cons (de_var (pv 9)) da_nil)) (de_len rfl T.no_len (da_cons (de_var (pv 4)) da_nil))) (de_one (de_eq hr.units (de_call D__law_product (hr.mono (by decide)) hG rfl tk (da_cons (de_var (pv 9)) (da_cons (de_var (pv 5)) (da_cons (de_var (pv 6)) (da_cons (de_var (pv 3)) da_nil))))) (de_call D__law_product (hr.mono (by decide)) hG rfl tk (da_cons (de_var (pv 4)) (da_cons (de_var (pv 5)) (da_cons (de_var (pv 6)) (da_cons (de_var (pv 3)) da_nil)))))))))
    (dss_cons (ds_set (i := 11) nd rfl (Or.inl rfl) (de_call D_same_bag (hr.mono (by decide)) hG rfl tk (da_cons (de_var (pv 4)) (da_cons (de_var (pv 9)) (da_cons (de_var (pv 5)) (da_cons (de_var (pv 6)) (da_cons (de_var (pv 3)) da_nil)))))))
    (dss_cons (ds_if (DW.pt (dw_or (dt_not (dt_val (de_isinst (n := .bl) rfl T.no_isinstance rfl T.no_bool (by decide +kernel) (by decide) (de_var (pv 11))))) (dw_or1 (dt_ne hr.units (de_var (pv 11)) (de_var (pv 10)))))) (dss_one (ds_ret de_bl)) dss_nil)
    (dss_cons (ds_for (passes_of rfl) rfl (di_list (DO.fz (do_lst (da_cons (de_var (pv 8)) (da_cons (DO.fz (do_sorted hr.units rfl T.no_sorted (da_cons (de_var (pv 8)) da_nil))) (da_cons (de_var (pv 9)) (da_cons (DO.fz (do_sorted hr.units rfl T.no_sorted (da_cons (de_var (pv 9)) da_nil))) da_nil))))))) (dg_name (i := 12) nd rfl (by first | exact Or.inl rfl | exact Or.inr rfl)) (dss_cons (ds_set (i := 13) nd rfl (Or.inl rfl) (de_call D__law_ascends (hr.mono (by decide)) hG rfl tk (da_cons (de_var (pv 12)) da_nil)))
    (dss_cons (ds_set (i := 14) nd rfl (Or.inl rfl) (de_and (de_eq hr.units (de_len rfl T.no_len (da_cons (de_var (pv 12)) da_nil)) (de_len rfl T.no_len (da_cons (de_var (pv 4)) da_nil))) (de_one (de_eq hr.units (de_call D__law_product (hr.mono (by decide)) hG rfl tk (da_cons (de_var (pv 12)) (da_cons (de_var (pv 5)) (da_cons (de_var (pv 6)) (da_cons (de_var (pv 3)) da_nil))))) (de_call D__law_product (hr.mono (by decide)) hG rfl tk (da_cons (de_var (pv 4)) (da_cons (de_var (pv 5)) (da_cons (de_var (pv 6)) (da_cons (de_var (pv 3)) da_nil)))))))))
    (dss_one (ds_if (DW.pt (dw_or (dt_ne hr.units (de_call D_in_order (hr.mono (by decide)) hG rfl tk (da_cons (de_var (pv 12)) da_nil)) (de_var (pv 13))) (dw_or1 (dt_ne hr.units (de_call D_sorted_claim (hr.mono (by decide)) hG rfl tk (da_cons (de_var (pv 4)) (da_cons (de_var (pv 12)) (da_cons (de_var (pv 5)) (da_cons (de_var (pv 6)) (da_cons (de_var (pv 3)) da_nil)))))) (de_and (de_var (pv 13)) (de_one (de_var (pv 14)))))))) (dss_one (ds_ret de_bl)) dss_nil)))))
    (dss_one (ds_if (DW.pt (dw_or (dt_not (dt_val (de_call D__law_among_right (hr.mono (by decide)) hG rfl tk (da_cons (de_var (pv 1)) (da_cons (de_var (pv 4)) (da_cons (de_var (pv 5)) (da_cons (de_var (pv 6)) (da_cons (de_var (pv 3)) da_nil)))))))) (dw_or1 (dt_ne hr.units (de_repr hG hr.units rfl T.no_repr (da_cons (de_var (pv 4)) da_nil)) (de_var (pv 7)))))) (dss_one (ds_ret de_bl)) dss_nil))))))))))))))))
    (dss_one (ds_ret de_bl))))) hsp
end
end G76

namespace G76
open PySem L2 DL
theorem iteB {b : Bool} {p q : Prop} (h1 : b = true → p) (h2 : b = false → q) : if b = true then p else q := by
  cases b with
  | true => exact iteT (h1 rfl)
  | false => exact iteF (h2 rfl)
section
variable {P : Program} {w : World} {K : PySem.W.Frag} {mg : Str → Option Value} {base : Heap}
theorem sc__law_draw : FnScope ["_law_state_here", "_law_many", "_law_cells", "_law_value", "_law_mixed"] ["_law_state_here", "_law_many"] (defScope s__law_draw) := ⟨rfl, rfl, rfl, by decide +kernel, rfl, by decide +kernel, by decide +kernel⟩
theorem d__law_draw (T : Txt K mg) : DefOk P w K mg base RD 1 "_law_draw" ["_law_state_here", "_law_many"] sp_draw := by
  have nd := sc__law_draw.nd
  obtain ⟨f, fd, hm, FF⟩ := T.f__law_draw
  refine ⟨f, fd, hm, FF.kp, FF.binds (fun _ _ _ _ _ _ us hl => match us, hl with | [_, _], _ => rfl), fnG_of FF sc__law_draw (fun vs H Q E h => ?_) fun cdv A outer s H vs Q E hr hG h => ?_⟩
  · obtain ⟨_, _, _, _, _, h, _⟩ := h
    exact h
  obtain ⟨G, m, ds, Qd, Zd, hl, h0, r, hq, h1, _⟩ := h
  obtain ⟨s, c, many, rfl, hmd, hm0, hm1, hQ⟩ := hq
  cases r with
  | cons r1 r2 =>
  cases r2 with
  | cons r2 r3 =>
  cases r3
  cases r1
  cases r2
  have d0 : Dst s c H := by
    have q := h0.res.dr
    rw [hmd] at q
    exact q
  have vs : isDr m.d s := by rw [hmd]; exact .inl rfl
  have vc : isDr m.d c := by rw [hmd]; exact .inr rfl
  have hsc := d0.ne
  refine ⟨_, pss_cons (ps_set (i := 2) nd rfl (Or.inl rfl) (pe_ix ix_list (pv 0) pe_int fun _ _ => rfl))
    (pss_cons (ps_while (passes_of rfl) (PW.pt (pw_and (pt_cmpR op_gt (pe_callB call_len (by rfl) T.no_len PySem.boot_len (pa_cons (pv 2) pa_nil)) pe_int (nomark _)) (pw_and1 (pt_cmpR op_eq (pe_ix ix_list (pv 2) pe_int fun _ _ => rfl) pe_int (nomark _)))))
      (pss_one (ps_expr (pe_bm F.plainAttrs_list F.slot_list_pop F.type_list_pop mt_popAt (pv 2) (pa_cons pe_int pa_nil)))))
    (pss_cons (ps_if (pt_cmpR op_gt (pe_callB call_len (by rfl) T.no_len PySem.boot_len (pa_cons (pv 2) pa_nil)) pe_int (nomark _))
      (pss_cons (ps_set (i := 3) nd rfl (Or.inl rfl) (pe_ix ix_list (pv 2) pe_int fun _ _ => rfl))
      (pss_cons (ps_asg (pe_op op_fdivW (pv 3) (pv 1)) (pg_sub (pv 2) pe_int set_list))
      (pss_one (ps_ret (pe_op op_mod (pe_callTy call_int1 (by rfl) T.no_int (by decide +kernel) (pa_cons (pv 3) pa_nil)) (pv 1))))))
      pss_nil)
    (pss_cons (ps_set (i := 4) nd rfl (Or.inl rfl) (pe_op op_mod (pe_callTy call_int1 (by rfl) T.no_int (by decide +kernel) (pa_cons (pe_op op_add (pe_op op_mul (pe_ix ix_list (pv 0) pe_int fun _ _ => rfl) pe_int) pe_int) pa_nil)) pe_int))
    (pss_cons (ps_asg (pv 4) (pg_sub (pv 0) pe_int set_list))
    (pss_one (ps_ret (pe_op op_mod (pe_callTy call_int1 (by rfl) T.no_int (by decide +kernel) (pa_cons (pe_op op_fdiv (pv 4) pe_int) pa_nil)) (pv 1)))))))), ?_⟩
  obtain ⟨cells, sd, e1, e2, hn, hs0, hs1⟩ := d0.ex
  have gs : G s = none := h0.vF s (.inl vs)
  have gc : G c = none := h0.vF c (.inl vc)
  have fin : ∀ (H' : Hp) (cs : List Int) (sd : Int), H' s = some (.lst [.ref c, .int sd]) → H' c = some (.lst (cs.map V.int)) → (∀ x ∈ cs, 0 ≤ x) → 0 ≤ sd → sd < 2147483648 → (∀ a o, a ≠ s → a ≠ c → H a = some o → H' a = some o) → ∀ r : Int, 0 ≤ r → r < many → Q (.int r) H' := by
    intro H' cs sd f1 f2 f3 f4 f5 fr r r0 r1
    have dr' : drOk m.d H' := by rw [hmd]; exact ⟨hsc, cs, sd, f1, f2, f3, f4, f5⟩
    have cl' : ∀ a u, m.μ a = some u → CellOk K G H' a u := fun a u e => (h0.res.cell a u e).up (Same.refl G) fun o q => fr a o (fun z => by rw [z, h0.res.ap s vs] at e; cases e) (fun z => by rw [z, h0.res.ap c vc] at e; cases e) q
    refine h1 _ H' G m _ ⟨fun a o e => fr a o (ne_of_none e gs) (ne_of_none e gc) (h0.sub a o e), ⟨dr', h0.res.ap, cl'⟩, h0.vF, fun a o e nv => ⟨fr a o (fun q => nv (.inl (q ▸ vs))) (fun q => nv (.inl (q ▸ vc))) e, rfl⟩, fun a q => .inl q, fun a o e => ?_, Same.refl G⟩ (.int r) (hQ r r0 r1)
    by_cases ha : a = s
    · exact ⟨_, by rw [ha]; exact f1⟩
    · by_cases hb : a = c
      · exact ⟨_, by rw [hb]; exact f2⟩
      · exact ⟨o, fr a o ha hb e⟩
  refine ⟨_, rfl, s, _, 0, .ref c, rfl, rfl, SqL.of e1, rfl, ?_⟩
  refine ⟨fun n σ H' => ∃ cs : List Int, n = cs.length ∧ σ = [some (.ref s), some (.int many), some (.ref c), none, none] ∧ H' s = some (.lst [.ref c, .int sd]) ∧ H' c = some (.lst (cs.map V.int)) ∧ (∀ x ∈ cs, 0 ≤ x) ∧ ∀ a o, a ≠ s → a ≠ c → H a = some o → H' a = some o, ⟨_, cells, rfl, rfl, e1, e2, hn, fun _ _ _ _ e => e⟩, ?_⟩
  rintro n σ H1 ⟨cs, rfl, rfl, f1, f2, f3, f4⟩
  refine ⟨_, rfl, _, _, rfl, .inl ⟨_, SqL.of f2, rfl⟩, _, _, rfl, rfl, _, rfl, ?_⟩
  cases cs with
  | nil =>
    refine iteF (iteF ?_)
    -- no cell is left
    refine ⟨_, rfl, _, _, rfl, .inl ⟨_, SqL.of f2, rfl⟩, _, _, rfl, rfl, _, rfl, iteF ?_⟩
    refine ⟨_, rfl, s, _, 1, .int sd, rfl, rfl, SqL.of f1, rfl, _, _, rfl, rfl, .inr ⟨by decide, by decide⟩, _, _, rfl, rfl, .inl ⟨_, rfl, _, _, rfl, rfl, (by decide : (0 : Int) < 2147483647), ?_⟩⟩
    have b0 : 0 ≤ (sd * 48271 + 12345) % 2147483647 := Int.emod_nonneg _ (by decide)
    have b1 : (sd * 48271 + 12345) % 2147483647 < 2147483647 := Int.emod_lt_of_pos _ (by decide)
    refine ⟨_, rfl, _, rfl, s, _, 1, 1, rfl, rfl, f1, rfl, ?_⟩
    refine ⟨_, rfl, _, _, rfl, rfl, ⟨by decide, by decide⟩, .inl ⟨_, rfl, _, rfl, _, _, rfl, rfl, hm0, ?_⟩⟩
    exact fin _ [] _ upd_same (by rw [upd_ne hsc.symm]; exact f2) f3 b0 (by omega) (fun a o n1 n2 e => by rw [upd_ne n1]; exact f4 a o n1 n2 e) _ (Int.emod_nonneg _ (by omega)) (Int.emod_lt_of_pos _ hm0)
  | cons x cs =>
    have x0 : 0 ≤ x := f3 x (List.mem_cons_self ..)
    have pos : decide ((0 : Int) < (((x :: cs).map V.int).length : Nat)) = true := by simp
    have at0 : atI ((x :: cs).map V.int) 0 = some (V.int x) := atI_nat (j := 0) rfl
    have ix0 : ixN ((x :: cs).map V.int).length 0 = some 0 := by simp [ixN]
    have sq0 := (ixN_seq ix0).1
    refine iteB (fun _ => ?_) (fun q => absurd (pos.symm.trans q) (by decide))
    refine ⟨_, rfl, c, _, 0, .int x, rfl, rfl, SqL.of f2, at0, rfl, _, rfl, ?_⟩
    by_cases hx : x = 0
    · subst hx
      refine iteT ⟨fun σ H' => ∃ cs' : List Int, cs'.length = cs.length ∧ σ = [some (.ref s), some (.int many), some (.ref c), none, none] ∧ H' s = some (.lst [.ref c, .int sd]) ∧ H' c = some (.lst (cs'.map V.int)) ∧ (∀ x ∈ cs', 0 ≤ x) ∧ ∀ a o, a ≠ s → a ≠ c → H a = some o → H' a = some o, fun σ' H' ⟨cs', q1, q2⟩ => ⟨cs'.length, by rw [q1]; exact Nat.lt_succ_self _, cs', rfl, q2⟩, ?_⟩
      refine ⟨_, rfl, .inl ⟨rfl, _, SqL.of f2⟩, c, _, 0, 0, .int 0, rfl, rfl, f2, by decide, by decide, sq0, rfl, ?_⟩
      exact ⟨cs, rfl, rfl, by rw [upd_ne hsc]; exact f1, upd_same, fun y hy => f3 y (List.mem_cons_of_mem _ hy), fun a o n1 n2 e => by rw [upd_ne n2]; exact f4 a o n1 n2 e⟩
    · have hx' : decide (V.int x = V.int 0) = false := decide_eq_false (fun q => hx (by cases q; rfl))
      rw [hx']
      refine iteF ?_
      refine ⟨_, rfl, _, _, rfl, .inl ⟨_, SqL.of f2, rfl⟩, _, _, rfl, rfl, _, rfl, iteB (fun _ => ?_) (fun q => absurd (pos.symm.trans q) (by decide))⟩
      refine ⟨_, rfl, c, _, 0, .int x, rfl, rfl, SqL.of f2, at0, ?_⟩
      refine ⟨_, rfl, _, rfl, _, _, rfl, rfl, wide_div hm0 (b := 64) (by omega) (by decide) (by decide), ?_⟩
      refine ⟨_, rfl, c, _, 0, 0, rfl, rfl, f2, ix0, ?_⟩
      refine ⟨_, rfl, .inl ⟨_, rfl, _, rfl, _, _, rfl, rfl, hm0, ?_⟩⟩
      refine fin _ (x / many :: cs) sd (by rw [upd_ne hsc]; exact f1) upd_same ?_ hs0 hs1 (fun a o n1 n2 e => by rw [upd_ne n2]; exact f4 a o n1 n2 e) _ (Int.emod_nonneg _ (by omega)) (Int.emod_lt_of_pos _ hm0)
      intro y hy
      rcases List.mem_cons.mp hy with e | hy
      · rw [e]; exact Int.ediv_nonneg x0 (by omega)
      · exact f3 y (List.mem_cons_of_mem _ hy)
end
end G76

namespace G76
open PySem L2 DL
local macro_rules | `(tactic| walk_at "w") => `(tactic| (conv => whnf))
local macro_rules | `(tactic| walk_at "s") => `(tactic| ((conv => whnf); first
  | refine ⟨trivial, ?_⟩ | refine ⟨⟨trivial, trivial⟩, ?_⟩ | refine ⟨⟨trivial, trivial, trivial⟩, ?_⟩ | refine ⟨⟨trivial, trivial, trivial, trivial⟩, ?_⟩ | refine ⟨⟨trivial, trivial, trivial, trivial, trivial⟩, ?_⟩ | refine ⟨⟨trivial, trivial, trivial, trivial, trivial, trivial⟩, ?_⟩ | refine ⟨⟨trivial, trivial, trivial, trivial, trivial, trivial, trivial⟩, ?_⟩
  | refine ⟨(by show (0 : Int) < _; omega), ?_⟩ | refine ⟨.inl ⟨by omega, by omega⟩, ?_⟩ | refine ⟨.inr ⟨by omega, by omega⟩, ?_⟩))
/-! ### numbers -/
def markS (s : Int) : List Int → Int
  | [] => 0
  | n :: r => n + s * markS s r
def prodS (s t : Int) : List (List Int) → Int
  | [] => 1
  | r :: rs => (t - markS s r) * prodS s t rs
theorem mod_lo {a p : Int} (h : 2 ≤ p) : 0 ≤ a % p := Int.emod_nonneg _ (by omega)
theorem mod_hi {a p : Int} (h : 2 ≤ p) : a % p < p := Int.emod_lt_of_pos _ (by omega)
theorem markS_rev (s p : Int) : ∀ row : List Int, row.reverse.foldl (fun t n => (t * s + n) % p) 0 = markS s row % p
  | [] => by simp [markS]
  | n :: r => by
    rw [List.reverse_cons, List.foldl_append, markS_rev s p r]
    exact ((Eqm.mod.mul Eqm.rfl).add Eqm.rfl).trans (Eqm.of (by show markS s r * s + n = n + s * markS s r; grind))
theorem prodS_perm {s t : Int} {a b : List (List Int)} (h : a.Perm b) : prodS s t a = prodS s t b := by
  induction h with
  | nil => rfl
  | cons x _ ih => rw [prodS, prodS, ih]
  | swap x y l => simp only [prodS]; grind
  | trans _ _ h1 h2 => rw [h1, h2]
/-! ### power -/
def sp_power : SpD R0 := fun ds m Q _ => ∃ b e p : Int, ds = [.int b, .int e, .int p] ∧ 0 ≤ e ∧ 2 ≤ p ∧ p ≤ 2147483647 ∧ Q (.int (b ^ e.toNat % p)) m
theorem half_pow (x : Int) (n : Nat) : x ^ n = (x * x) ^ (n / 2) * (if n % 2 = 1 then x else 1) := by
  have h : n = n / 2 + n / 2 + n % 2 := by omega
  have e : x ^ n = x ^ (n / 2 + n / 2 + n % 2) := by rw [← h]
  rw [e, Int.pow_add, Int.pow_add, Int.mul_pow]
  congr 1
  rcases Nat.mod_two_eq_zero_or_one n with h | h
  · rw [h, if_neg (by decide), Int.pow_zero]
  · rw [h, if_pos rfl, Int.pow_succ, Int.pow_zero, Int.one_mul]
theorem power_loop {E : DEnds R0} {b : D} {p : Int} {m : R0.M} (hp : 2 ≤ p) (hp2 : p ≤ 2147483647) : ∀ (n : Nat) (e r q : Int), 0 ≤ e → e < n → 0 ≤ r → r < p → 0 ≤ q → q < p →
    (∀ e' q', E.nx [.dat b, .dat (.int e'), .dat (.int p), .dat (.int (r * q ^ e.toNat % p)), .dat (.int q')] m) → whileN (bOf (eOp dGt (eVar 1) (eC (.int 0)))) b1_power E n [.dat b, .dat (.int e), .dat (.int p), .dat (.int r), .dat (.int q)] m
  | 0, e, _, _, h0, h1, _, _, _, _, _ => by omega
  | n + 1, e, r, q, h0, h1, r0, r1, q0, q1, h => by
    walk_at "w"
    refine dec2 (fun he => ?_) (fun he => ?_)
    · walk_at "s"
      walk_at "w"
      have hd : (e / 2).toNat = e.toNat / 2 := by omega
      have key : ∀ r', Eqm p r' (r * if e.toNat % 2 = 1 then q else 1) → Eqm p (r' * (q * q % p) ^ (e / 2).toNat) (r * q ^ e.toNat) := fun r' hr => by
        rw [hd, half_pow q e.toNat]
        refine ((hr.mul (Eqm.mod.pow _))).trans (Eqm.of ?_)
        grind
      refine dec2 (fun ho => ?_) (fun ho => ?_)
      · walk_at "s"
        walk_at "s"
        walk_at "s"
        walk_at "s"
        walk_at "s"
        walk_at "s"
        walk_at "s"
        refine ⟨⟨by decide, by decide⟩, ?_⟩
        have k := key (r * q % p) (by rw [if_pos (by omega)]; exact Eqm.mod)
        refine power_loop hp hp2 n (e / 2) _ _ (by omega) (by omega) (mod_lo hp) (mod_hi hp) (mod_lo hp) (mod_hi hp) fun e' q' => ?_
        have k' : r * q % p * (q * q % p) ^ (e / 2).toNat % p = r * q ^ e.toNat % p := k
        rw [k']
        exact h e' q'
      · walk_at "s"
        walk_at "s"
        walk_at "s"
        walk_at "s"
        refine ⟨⟨by decide, by decide⟩, ?_⟩
        have k := key r (by rw [if_neg (by omega)]; exact Eqm.of (by grind))
        refine power_loop hp hp2 n (e / 2) _ _ (by omega) (by omega) r0 r1 (mod_lo hp) (mod_hi hp) fun e' q' => ?_
        have k' : r * (q * q % p) ^ (e / 2).toNat % p = r * q ^ e.toNat % p := k
        rw [k']
        exact h e' q'
    · have e0 : e = 0 := by omega
      subst e0
      have z := h 0 q
      have e1 : r * q ^ (0 : Int).toNat % p = r := by
        rw [show (0 : Int).toNat = 0 from rfl, Int.pow_zero, Int.mul_one]
        exact Int.emod_eq_of_lt r0 r1
      rw [e1] at z
      exact z
section
variable {P : Program} {w : World} {K : PySem.W.Frag} {mg : Str → Option Value} {base : Heap}
theorem d_power (T : Txt K mg) : DefOk P w K mg base R0 1 "power" ["base", "exponent", "p"] sp_power := by
  refine dv_power T fun ds m Q Z hl h => ?_
  obtain ⟨b, e, p, rfl, h0, h1, h2, hq⟩ := h
  walk_at "s"
  walk_at "s"
  walk_at "s"
  walk_at "s"
  walk_at "w"
  refine ⟨e.toNat + 1, ?_⟩
  refine power_loop h1 h2 _ e _ _ h0 (by omega) (mod_lo h1) (mod_hi h1) (mod_lo h1) (mod_hi h1) fun e' q' => ?_
  walk_at "s"
  walk_at "w"
  have k : Eqm p (1 % p * (b % p) ^ e.toNat) (b ^ e.toNat) := (Eqm.mod.mul (Eqm.mod.pow _)).trans (Eqm.of (Int.one_mul _))
  have k' : 1 % p * (b % p) ^ e.toNat % p = b ^ e.toNat % p := k
  rw [k']
  exact hq
end
/-! ### mark, product -/
def sp_mark : SpD R0 := fun ds m Q _ => ∃ (row : List Int) (s p : Int), ds = [eI row, .int s, .int p] ∧ 0 ≤ s ∧ s < p ∧ p ≤ 2147483647 ∧ Q (.int (markS s row % p)) m
theorem mark_loop {E : DEnds R0} {s p : Int} {r : D} (hp : 0 < p) (hp2 : p ≤ 2147483647) : ∀ (l : List Int) (tot : Int) (j : En) (m : R0.M), 0 ≤ tot → tot < p →
    (∀ j, E.nx [.dat r, .dat (.int s), .dat (.int p), .dat (.int (l.foldl (fun t n => (t * s + n) % p) tot)), j] m) → forD (tName 4) b1_mark E (l.map .int) [.dat r, .dat (.int s), .dat (.int p), .dat (.int tot), j] m
  | [], _, j, _, _, _, h => h j
  | n :: l, tot, j, m, h0, h1, h => by
    walk_at "s"
    walk_at "s"
    walk_at "s"
    exact mark_loop hp hp2 l _ _ m (Int.emod_nonneg _ (by omega)) (Int.emod_lt_of_pos _ hp) h
def sp_product : SpD R0 := fun ds m Q _ => ∃ (rows : List (List Int)) (s t p : Int), ds = [eII rows, .int s, .int t, .int p] ∧ 0 ≤ s ∧ s < p ∧ 2 ≤ p ∧ p ≤ 2147483647 ∧ Q (.int (prodS s t rows % p)) m
theorem product_loop {E : DEnds R0} {s t p : Int} {r : D} {m : R0.M} (hs : 0 ≤ s) (hs2 : s < p) (hp : 2 ≤ p) (hp2 : p ≤ 2147483647) : ∀ (l : List (List Int)) (tot : Int) (j : En), 0 ≤ tot → tot < p →
    (∀ j, E.nx [.dat r, .dat (.int s), .dat (.int t), .dat (.int p), .dat (.int (tot * prodS s t l % p)), j] m) → forD (tName 5) (b1_product sp_mark) E (l.map eI) [.dat r, .dat (.int s), .dat (.int t), .dat (.int p), .dat (.int tot), j] m
  | [], tot, j, h0, h1, h => by
    have := h j
    rw [prodS, Int.mul_one, Int.emod_eq_of_lt h0 h1] at this
    exact this
  | n :: l, tot, j, h0, h1, h => by
    walk_at "s"
    refine ⟨n, s, p, rfl, hs, hs2, hp2, ?_⟩
    walk_at "s"
    walk_at "s"
    walk_at "s"
    refine product_loop hs hs2 hp hp2 l _ _ (mod_lo hp) (mod_hi hp) fun j => ?_
    have k : Eqm p (tot * (t - markS s n % p) % p * prodS s t l) (tot * ((t - markS s n) * prodS s t l)) :=
      (((Eqm.mod.trans (Eqm.rfl.mul (Eqm.rfl.sub Eqm.mod)))).mul Eqm.rfl).trans (Eqm.of (by grind))
    have k' : tot * (t - markS s n % p) % p * prodS s t l % p = tot * ((t - markS s n) * prodS s t l) % p := k
    rw [k']
    exact h j
def sp_same_bag : SpD R0 := fun ds m Q _ => ∃ (rows others : List (List Int)) (s t p : Int), ds = [eII rows, eII others, .int s, .int t, .int p] ∧ 0 ≤ s ∧ s < p ∧ 2 ≤ p ∧ p ≤ 2147483647 ∧
  Q (.bl (decide (rows.length = others.length ∧ prodS s t rows % p = prodS s t others % p))) m
section
variable {P : Program} {w : World} {K : PySem.W.Frag} {mg : Str → Option Value} {base : Heap}
theorem d_mark (T : Txt K mg) : DefOk P w K mg base R0 1 "mark" ["row", "s", "p"] sp_mark := by
  refine dv_mark T fun ds m Q Z hl h => ?_
  obtain ⟨row, s, p, rfl, h0, h1, h2, hq⟩ := h
  walk_at "s"
  walk_at "w"
  rw [← List.map_reverse]
  refine mark_loop (by omega) h2 _ 0 _ m (by omega) (by omega) fun j => ?_
  walk_at "s"
  walk_at "w"
  rw [markS_rev]
  exact hq
theorem d_product (T : Txt K mg) : DefOk P w K mg base R0 2 "product" ["rows", "s", "t", "p"] sp_product := by
  refine dv_product T (d_mark T) fun ds m Q Z hl h => ?_
  obtain ⟨rows, s, t, p, rfl, h0, h1, h2, h3, hq⟩ := h
  walk_at "s"
  walk_at "s"
  walk_at "w"
  refine product_loop h0 h1 h2 h3 _ _ _ (mod_lo h2) (mod_hi h2) fun j => ?_
  walk_at "s"
  walk_at "w"
  have k : Eqm p (1 % p * prodS s t rows) (prodS s t rows) := (Eqm.mod.mul Eqm.rfl).trans (Eqm.of (Int.one_mul _))
  have k' : 1 % p * prodS s t rows % p = prodS s t rows % p := k
  rw [k']
  exact hq
theorem d_same_bag (T : Txt K mg) : DefOk P w K mg base R0 3 "same_bag" ["rows", "others", "s", "t", "p"] sp_same_bag := by
  refine dv_same_bag T (d_product T) fun ds m Q Z hl h => ?_
  obtain ⟨rows, others, s, t, p, rfl, h0, h1, h2, h3, hq⟩ := h
  walk_at "w"
  refine dec2 (fun he => ?_) (fun he => ?_)
  · walk_at "s"
    refine ⟨rows, s, t, p, rfl, h0, h1, h2, h3, ?_⟩
    walk_at "s"
    refine ⟨others, s, t, p, rfl, h0, h1, h2, h3, ?_⟩
    walk_at "s"
    walk_at "w"
    have he' : rows.length = others.length := by simp only [List.length_map] at he; omega
    rw [← show decide (rows.length = others.length ∧ prodS s t rows % p = prodS s t others % p) = decide (prodS s t rows % p = prodS s t others % p) by simp [he']]
    exact hq
  · walk_at "s"
    walk_at "w"
    have he' : ¬ rows.length = others.length := by simp only [List.length_map] at he; omega
    rw [show decide (rows.length = others.length ∧ prodS s t rows % p = prodS s t others % p) = false by simp [he']] at hq
    exact hq
end
end G76

namespace G76
open PySem L2 DL
local macro_rules | `(tactic| walk_at "w") => `(tactic| (conv => whnf))
local macro_rules | `(tactic| walk_at "s") => `(tactic| ((conv => whnf); first
  | refine And.intro trivial ?_ | refine And.intro (And.intro trivial trivial) ?_ | refine And.intro (And.intro trivial (And.intro trivial trivial)) ?_ | refine And.intro (And.intro trivial (And.intro trivial (And.intro trivial trivial))) ?_ | refine And.intro (And.intro trivial (And.intro trivial (And.intro trivial (And.intro trivial trivial)))) ?_ | refine And.intro (And.intro trivial (And.intro trivial (And.intro trivial (And.intro trivial (And.intro trivial trivial))))) ?_
  | refine And.intro (fun (_ : true = true) => ?_) (fun (q : true = false) => Bool.noConfusion q) | refine And.intro (fun (q : false = true) => Bool.noConfusion q) (fun (_ : false = false) => ?_) | refine And.intro rfl ?_
  | refine And.intro (by show (0 : Int) < _; omega) ?_ | refine And.intro (Or.inl (And.intro (by omega) (by omega))) ?_ | refine And.intro (Or.inr (And.intro (by omega) (by omega))) ?_ | refine And.intro (And.intro (by decide) (by decide)) ?_))
local macro_rules | `(tactic| walk_at "r") => `(tactic| ((repeat walk_at "s"); try walk_at "w"))
/-! ### among -/
def prodC (s t : Int) : List (List Int) → List Int → Int
  | r :: rs, c :: cs => (t - markS s r) ^ c.toNat * prodC s t rs cs
  | _, _ => 1
def amongV (s t p : Int) (rows table : List (List Int)) (counts : List Int) : Bool :=
  decide (counts.length = table.length ∧ counts.sum = (rows.length : Int) ∧ prodC s t table counts % p = prodS s t rows % p)
def sp_among : SpD R0 := fun ds m Q _ => ∃ (rows table : List (List Int)) (counts : List Int) (s t p : Int), ds = [eII rows, eII table, eI counts, .int s, .int t, .int p] ∧ 0 ≤ s ∧ s < p ∧ 2 ≤ p ∧ p ≤ 2147483647 ∧ (∀ c ∈ counts, 0 ≤ c) ∧
  Q (.bl (amongV s t p rows table counts)) m
theorem among_loop {E : DEnds R0} {s t p : Int} {r b c : D} {m : R0.M} (hs : 0 ≤ s) (hs2 : s < p) (hp : 2 ≤ p) (hp2 : p ≤ 2147483647) : ∀ (l : List (List Int)) (cs : List Int) (tot : Int) (j k : En), l.length = cs.length → (∀ c ∈ cs, 0 ≤ c) → 0 ≤ tot → tot < p →
    (∀ j k, E.nx [.dat r, .dat b, .dat c, .dat (.int s), .dat (.int t), .dat (.int p), .dat (.int (tot * prodC s t l cs % p)), j, k] m) →
    forD (tTupD 2 (tsCons (tName 7) (tsCons (tName 8) tsNil))) (b1_among sp_power sp_mark sp_product) E ((l.zip cs).map fun q => D.tup [eI q.1, .int q.2]) [.dat r, .dat b, .dat c, .dat (.int s), .dat (.int t), .dat (.int p), .dat (.int tot), j, k] m
  | [], [], tot, j, k, _, _, h0, h1, h => by
    have := h j k
    rw [show prodC s t [] [] = 1 from rfl, Int.mul_one, Int.emod_eq_of_lt h0 h1] at this
    exact this
  | n :: l, c0 :: cs, tot, j, k, hl, hc, h0, h1, h => by
    walk_at "s"
    walk_at "s"
    walk_at "w"
    refine ⟨n, s, p, rfl, hs, hs2, hp2, ?_⟩
    walk_at "s"
    refine ⟨_, c0, p, rfl, hc c0 (List.mem_cons_self ..), hp, hp2, ?_⟩
    walk_at "s"
    walk_at "s"
    walk_at "s"
    refine among_loop hs hs2 hp hp2 l cs _ _ _ (by simpa using hl) (fun c hm => hc c (List.mem_cons_of_mem _ hm)) (mod_lo hp) (mod_hi hp) fun j k => ?_
    have k1 : Eqm p (tot * ((t - markS s n % p) ^ c0.toNat % p) % p * prodC s t l cs) (tot * ((t - markS s n) ^ c0.toNat * prodC s t l cs)) :=
      ((Eqm.mod.trans (Eqm.rfl.mul (Eqm.mod.trans ((Eqm.rfl.sub Eqm.mod).pow _)))).mul Eqm.rfl).trans (Eqm.of (by grind))
    have k2 : tot * ((t - markS s n % p) ^ c0.toNat % p) % p * prodC s t l cs % p = tot * ((t - markS s n) ^ c0.toNat * prodC s t l cs) % p := k1
    rw [k2]
    exact h j k
section
variable {P : Program} {w : World} {K : PySem.W.Frag} {mg : Str → Option Value} {base : Heap}
theorem d_among (T : Txt K mg) : DefOk P w K mg base R0 3 "among" ["rows", "table", "counts", "s", "t", "p"] sp_among := by
  refine dv_among T (d_power T) (d_mark T) (d_product T) fun ds m Q Z hl h => ?_
  obtain ⟨rows, table, counts, s, t, p, rfl, h0, h1, h2, h3, hc, hq⟩ := h
  walk_at "w"
  refine ndec2 (fun e => ?_) (fun e => ?_)
  · walk_at "s"
    walk_at "s"
    walk_at "w"
    simp only [List.length_map] at e
    have z : amongV s t p rows table counts = false := decide_eq_false fun q => e (by omega)
    rw [z] at hq
    exact hq
  · walk_at "w"
    refine ⟨_, counts, rfl, rfl, ?_⟩
    walk_at "w"
    simp only [List.length_map] at e
    refine ndec2 (fun e2 => ?_) (fun e2 => ?_)
    · walk_at "r"
      simp only [List.length_map] at e2
      have z : amongV s t p rows table counts = false := decide_eq_false fun q => e2 (by omega)
      rw [z] at hq
      exact hq
    · walk_at "r"
      rw [List.zip_map, List.map_map]
      refine among_loop h0 h1 h2 h3 table counts _ _ _ (by omega) hc (mod_lo h2) (mod_hi h2) fun j k => ?_
      walk_at "r"
      refine ⟨rows, s, t, p, rfl, h0, h1, h2, h3, ?_⟩
      walk_at "r"
      simp only [List.length_map] at e2
      have z : amongV s t p rows table counts = decide ((1 % p) * prodC s t table counts % p = prodS s t rows % p) := by
        have k1 : Eqm p (1 % p * prodC s t table counts) (prodC s t table counts) := (Eqm.mod.mul Eqm.rfl).trans (Eqm.of (Int.one_mul _))
        have k2 : 1 % p * prodC s t table counts % p = prodC s t table counts % p := k1
        rw [k2]
        unfold amongV
        congr 1
        simp only [eq_iff_iff]
        exact ⟨fun h => h.2.2, fun h => ⟨by omega, by omega, h⟩⟩
      rw [z] at hq
      exact hq
end
/-! ### in_order, sorted_claim -/
def ascV (rows : List (List Int)) : Bool := (List.range (rows.length - 1)).all fun k => decide (rows.getD k [] ≤ rows.getD (k + 1) [])
def sp_in_order : SpD R0 := fun ds m Q _ => ∃ rows : List (List Int), ds = [eII rows] ∧ rows.length ≤ 1000 ∧ Q (.bl (ascV rows)) m
def sp_sorted_claim : SpD R0 := fun ds m Q _ => ∃ (rows others : List (List Int)) (s t p : Int), ds = [eII rows, eII others, .int s, .int t, .int p] ∧ 0 ≤ s ∧ s < p ∧ 2 ≤ p ∧ p ≤ 2147483647 ∧ others.length ≤ 1000 ∧
  Q (.bl (ascV others && decide (rows.length = others.length ∧ prodS s t rows % p = prodS s t others % p))) m
theorem atI_row {rows : List (List Int)} {k : Nat} (h : k < rows.length) : atI (rows.map eI) (k : Int) = some (eI (rows.getD k [])) := by
  refine atI_enc (by omega) ?_
  rw [Int.toNat_natCast, List.getD_eq_getElem?_getD, List.getElem?_eq_getElem h]
  rfl
section
variable {P : Program} {w : World} {K : PySem.W.Frag} {mg : Str → Option Value} {base : Heap}
theorem d_in_order (T : Txt K mg) : DefOk P w K mg base R0 1 "in_order" ["rows"] sp_in_order := by
  refine dv_in_order T fun ds m Q Z hl h => ?_
  obtain ⟨rows, rfl, hn, hq⟩ := h
  walk_at "w"
  refine ⟨⟨by simp only [List.length_map]; omega, by simp only [List.length_map]; omega⟩, ?_⟩
  walk_at "w"
  refine lcD_mapT (fun k : Nat => D.int (0 + (k : Int) * 1)) (fun k : Nat => D.bl (decide (rows.getD k [] ≤ rows.getD (k + 1) []))) _ [] (fun k hk P hP => ?_) (fun _ => trivial) ?_ ?_
  · have hk2 : k + 1 < rows.length := by
      simp only [List.length_map, List.mem_range] at hk
      omega
    walk_at "r"
    refine ⟨_, eI (rows.getD k []), rfl, by rw [show (0 + (k : Int) * 1) = (k : Int) by omega]; exact atI_row (by omega), ?_⟩
    walk_at "r"
    refine ⟨_, eI (rows.getD (k + 1) []), rfl, ?_, ?_⟩
    · show atI (rows.map eI) (0 + (k : Int) * 1 + 1) = _
      rw [show (0 + (k : Int) * 1 + 1) = ((k + 1 : Nat) : Int) by omega]
      exact atI_row hk2
    · exact le_eI (hP _ rfl)
  · simp only [List.length_range, List.length_map, List.length_nil]
    exact size1000 (by omega)
  · walk_at "r"
    refine ⟨_, (List.range (((List.map eI rows).length : Int) - 1).toNat).map fun k => decide (rows.getD k [] ≤ rows.getD (k + 1) []), rfl, ?_, ?_⟩
    · show some _ = some _
      rw [List.map_map]
      rfl
    · walk_at "r"
      rw [List.all_map] 
      have e : (((List.map eI rows).length : Int) - 1).toNat = rows.length - 1 := by simp only [List.length_map]; omega
      rw [e]
      exact hq
theorem d_sorted_claim (T : Txt K mg) : DefOk P w K mg base R0 4 "sorted_claim" ["rows", "outputs", "s", "t", "p"] sp_sorted_claim := by
  refine dv_sorted_claim T (d_in_order T) (d_same_bag T) fun ds m Q Z hl h => ?_
  obtain ⟨rows, others, s, t, p, rfl, h0, h1, h2, h3, hn, hq⟩ := h
  walk_at "r"
  refine ⟨others, rfl, hn, ?_⟩
  cases e : ascV others with
  | false =>
    walk_at "r"
    rw [e] at hq
    exact hq
  | true =>
    walk_at "r"
    refine ⟨rows, others, s, t, p, rfl, h0, h1, h2, h3, ?_⟩
    rw [e, Bool.true_and] at hq
    walk_at "r"
    exact hq
end
end G76

namespace G76
open PySem L2 DL
local macro_rules | `(tactic| walk_at "w") => `(tactic| (conv => whnf))
local macro_rules | `(tactic| walk_at "s") => `(tactic| ((conv => whnf); first
  | refine And.intro trivial ?_ | refine And.intro (And.intro trivial trivial) ?_ | refine And.intro (And.intro trivial (And.intro trivial trivial)) ?_ | refine And.intro (And.intro trivial (And.intro trivial (And.intro trivial trivial))) ?_ | refine And.intro (And.intro trivial (And.intro trivial (And.intro trivial (And.intro trivial trivial)))) ?_ | refine And.intro (And.intro trivial (And.intro trivial (And.intro trivial (And.intro trivial (And.intro trivial trivial))))) ?_
  | refine And.intro (fun (_ : true = true) => ?_) (fun (q : true = false) => Bool.noConfusion q) | refine And.intro (fun (q : false = true) => Bool.noConfusion q) (fun (_ : false = false) => ?_) | refine And.intro rfl ?_
  | refine And.intro (by show (0 : Int) < _; omega) ?_ | refine And.intro (Or.inl (And.intro (by omega) (by omega))) ?_ | refine And.intro (Or.inr (And.intro (by omega) (by omega))) ?_ | refine And.intro (And.intro (by decide) (by decide)) ?_ | refine And.intro (DL.size1000 (Nat.le_of_ble_eq_true rfl)) ?_))
local macro_rules | `(tactic| walk_at "r") => `(tactic| ((repeat walk_at "s"); try walk_at "w"))
local macro_rules | `(tactic| walk_at "eqI") => `(tactic| (refine And.intro (pl_eI _) (And.intro (pl_eI _) (And.intro (shaped_eI _) (And.intro (shaped_eI _) ?_))); rw [eqv_flat_eI]))
local macro_rules | `(tactic| walk_at "eqII") => `(tactic| (refine And.intro (pl_eII _) (And.intro (pl_eII _) (And.intro (shaped_eII _) (And.intro (shaped_eII _) ?_))); rw [eqv_flat_eII]))
/-! ### the law's own functions -/
def sp__law_pick : SpD RD := fun ds m Q _ => ∃ (s c : Addr) (l : List D), ds = [.raw (.ref s), .lst l] ∧ m.d = some (s, c) ∧ 0 < l.length ∧ l.length < 2 ^ 64 ∧ (∀ d ∈ l, d.firm) ∧ ∀ d ∈ l, Q d m
def sp__law_mark : SpD RD := fun ds m Q _ => ∃ (row : List Int) (s p : Int), ds = [eI row, .int s, .int p] ∧ 0 ≤ s ∧ s < p ∧ 2 ≤ p ∧ p ≤ 2147483647 ∧ Q (.int (markS s row % p)) m
def sp__law_product : SpD RD := fun ds m Q _ => ∃ (rows : List (List Int)) (s t p : Int), ds = [eII rows, .int s, .int t, .int p] ∧ 0 ≤ s ∧ s < p ∧ 2 ≤ p ∧ p ≤ 2147483647 ∧ Q (.int (prodS s t rows % p)) m
def sp__law_times : SpD RD := fun ds m Q _ => ∃ (rows : List (List Int)) (row : List Int), ds = [eII rows, eI row] ∧ rows.length ≤ 1000 ∧ Q (.int ((rows.filter fun o => decide (o = row)).length : Int)) m
def sp__law_ascends : SpD RD := fun ds m Q _ => ∃ rows : List (List Int), ds = [eII rows] ∧ rows.length ≤ 1000 ∧ Q (.bl (ascV rows)) m
def sp__law_state : SpD RD := fun ds m Q _ => ∃ ns : List Int, ds = [eI ns] ∧ ns.length ≤ 63 ∧ m.d = none ∧ ∀ (s c : Addr) m', m'.d = some (s, c) → Q (.raw (.ref s)) m'
/-- rows: at most 12, each of at most 4 numbers below 2^31 -/
def okRows (rows : List (List Int)) : Prop := rows.length ≤ 12 ∧ ∀ r ∈ rows, 0 < r.length ∧ r.length ≤ 4 ∧ ∀ i ∈ r, 0 ≤ i ∧ i < 2147483648
def sp__law_rows : SpD RD := fun ds m Q _ => ∃ (s c : Addr) (many width p : Int), ds = [.raw (.ref s), .int many, .int width, .int p] ∧ m.d = some (s, c) ∧ 0 ≤ many ∧ many ≤ 12 ∧ 1 ≤ width ∧ width ≤ 4 ∧ 0 < p ∧ p ≤ 2147483647 ∧ ∀ rows, okRows rows → Q (eII rows) m
def sp__law_turned : SpD RD := fun ds m Q _ => ∃ (s c : Addr) (rows : List (List Int)), ds = [.raw (.ref s), eII rows] ∧ m.d = some (s, c) ∧ rows.length ≤ 1000 ∧ ∀ others, List.Perm rows others → Q (eII others) m
def sp__law_changed : SpD RD := fun ds m Q _ => ∃ (s c : Addr) (rows : List (List Int)) (p : Int), ds = [.raw (.ref s), eII rows, .int p] ∧ m.d = some (s, c) ∧ 0 < p ∧ p ≤ 2147483647 ∧ rows.length ≤ 1000 ∧ (∀ r ∈ rows, 0 < r.length ∧ r.length < 1000) ∧ ∀ others m', m'.d = m.d → others.length ≤ rows.length → Q (eII others) m'
def sp__law_among_right : SpD RD := fun ds m Q _ => ∃ (a c : Addr) (rows : List (List Int)) (s t p : Int), ds = [.raw (.ref a), eII rows, .int s, .int t, .int p] ∧ m.d = some (a, c) ∧ okRows rows ∧ 0 ≤ s ∧ s < p ∧ 2 ≤ p ∧ p ≤ 2147483647 ∧ ∀ m', m'.d = m.d → Q (.bl true) m'
theorem mark_turn {s p : Int} : ∀ (l : List Int) (tot fac : Int), (l.foldl (fun (q : Int × Int) n => ((q.1 + n * q.2) % p, q.2 * s % p)) (tot, fac)).1 % p = (tot + fac * markS s l) % p
  | [], tot, fac => by simp [markS]
  | n :: l, tot, fac => by
    rw [List.foldl_cons, mark_turn l]
    exact (Eqm.add Eqm.mod (Eqm.mul Eqm.mod Eqm.rfl)).trans (Eqm.of (by rw [markS]; grind))
theorem lmark_loop {E : DEnds RD} {s p : Int} {r : D} {m : RD.M} (hp : 2 ≤ p) (hp2 : p ≤ 2147483647) : ∀ (l : List Int) (tot fac : Int) (j : En), 0 ≤ tot → tot < p → 0 ≤ fac → fac < p →
    (∀ j k, E.nx [.dat r, .dat (.int s), .dat (.int p), .dat (.int ((tot + fac * markS s l) % p)), k, j] m) → forD (tName 5) b1__law_mark E (l.map .int) [.dat r, .dat (.int s), .dat (.int p), .dat (.int tot), .dat (.int fac), j] m
  | [], tot, fac, j, h0, h1, _, _, h => by
    have := h j (.dat (.int fac))
    rw [markS, Int.mul_zero, Int.add_zero, Int.emod_eq_of_lt h0 h1] at this
    exact this
  | n :: l, tot, fac, j, h0, h1, h2, h3, h => by
    walk_at "r"
    refine lmark_loop hp hp2 l _ _ _ (mod_lo hp) (mod_hi hp) (mod_lo hp) (mod_hi hp) fun j k => ?_
    have k1 : Eqm p ((tot + n * fac) % p + fac * s % p * markS s l) (tot + fac * (n + s * markS s l)) := (Eqm.add Eqm.mod (Eqm.mul Eqm.mod Eqm.rfl)).trans (Eqm.of (by grind))
    have k2 : ((tot + n * fac) % p + fac * s % p * markS s l) % p = (tot + fac * (n + s * markS s l)) % p := k1
    show E.nx [_, _, _, .dat (.int (((tot + n * fac) % p + fac * s % p * markS s l) % p)), _, _] _
    rw [k2]
    exact h j k
theorem lprod_loop {E : DEnds RD} {s t p : Int} {r : D} {m : RD.M} (hs : 0 ≤ s) (hs2 : s < p) (hp : 2 ≤ p) (hp2 : p ≤ 2147483647) : ∀ (l : List (List Int)) (tot : Int) (j : En), 0 ≤ tot → tot < p →
    (∀ j, E.nx [.dat r, .dat (.int s), .dat (.int t), .dat (.int p), .dat (.int (tot * prodS s t l % p)), j] m) → forD (tName 5) (b1__law_product sp__law_mark) E (l.map eI) [.dat r, .dat (.int s), .dat (.int t), .dat (.int p), .dat (.int tot), j] m
  | [], tot, j, h0, h1, h => by
    have := h j
    rw [prodS, Int.mul_one, Int.emod_eq_of_lt h0 h1] at this
    exact this
  | n :: l, tot, j, h0, h1, h => by
    walk_at "r"
    refine ⟨n, s, p, rfl, hs, hs2, hp, hp2, ?_⟩
    walk_at "r"
    refine lprod_loop hs hs2 hp hp2 l _ _ (mod_lo hp) (mod_hi hp) fun j => ?_
    have k : Eqm p (tot * (t - markS s n % p) % p * prodS s t l) (tot * ((t - markS s n) * prodS s t l)) :=
      (((Eqm.mod.trans (Eqm.rfl.mul (Eqm.rfl.sub Eqm.mod)))).mul Eqm.rfl).trans (Eqm.of (by grind))
    have k' : tot * (t - markS s n % p) % p * prodS s t l % p = tot * ((t - markS s n) * prodS s t l) % p := k
    rw [k']
    exact h j
theorem asc_loop {E : DEnds RD} {rows : List (List Int)} {m : RD.M} : ∀ (l : List Nat) (j : En), (∀ k ∈ l, k + 1 < rows.length) →
    ((l.all fun k => decide (rows.getD k [] ≤ rows.getD (k + 1) [])) = true → ∀ j, E.nx [.dat (eII rows), j] m) → ((l.all fun k => decide (rows.getD k [] ≤ rows.getD (k + 1) [])) = false → E.rt (.bl false) m) →
    forD (tName 1) b1__law_ascends E (l.map fun k : Nat => D.int (0 + (k : Int) * 1)) [.dat (eII rows), j] m
  | [], j, _, h1, _ => h1 rfl j
  | n :: l, j, hl, h1, h2 => by
    have hn := hl n (List.mem_cons_self ..)
    have g1 : atI (rows.map eI) (0 + (n : Int) * 1) = some (eI (rows.getD n [])) := by
      rw [show (0 + (n : Int) * 1) = (n : Int) by omega]; exact atI_row (by omega)
    have g2 : atI (rows.map eI) (0 + (n : Int) * 1 + 1) = some (eI (rows.getD (n + 1) [])) := by
      rw [show (0 + (n : Int) * 1 + 1) = ((n + 1 : Nat) : Int) by omega]; exact atI_row hn
    walk_at "r"
    refine ⟨_, _, rfl, g1, ?_⟩
    walk_at "r"
    refine ⟨_, _, rfl, g2, ?_⟩
    walk_at "r"
    refine ⟨_, [rows.getD n [], rows.getD (n + 1) []].map eI, rfl, rfl, pls_eI _, alike_rows _, sortable_rows _, depth_rows _, ?_⟩
    rw [sort_eII]
    walk_at "r"
    refine ⟨_, _, rfl, g1, ?_⟩
    walk_at "r"
    refine ⟨_, _, rfl, g2, ?_⟩
    walk_at "r"
    have pl1 := pl_eII ([rows.getD n [], rows.getD (n + 1) []].mergeSort leRow)
    refine And.intro pl1 (And.intro (pl_eII [rows.getD n [], rows.getD (n + 1) []]) (And.intro (shaped_eII ([rows.getD n [], rows.getD (n + 1) []].mergeSort leRow)) (And.intro (shaped_eII [rows.getD n [], rows.getD (n + 1) []]) ?_)))
    rw [show ∀ w w' ρ ρ', PyData.eqv (flat w ρ (eII ([rows.getD n [], rows.getD (n + 1) []].mergeSort leRow))).toP (flat w' ρ' (D.lst [eI (rows.getD n []), eI (rows.getD (n + 1) [])])).toP = decide ([rows.getD n [], rows.getD (n + 1) []].mergeSort leRow = [rows.getD n [], rows.getD (n + 1) []]) from fun _ _ _ _ => eqv_eII _ [rows.getD n [], rows.getD (n + 1) []]]
    have z : decide ([rows.getD n [], rows.getD (n + 1) []].mergeSort leRow = [rows.getD n [], rows.getD (n + 1) []]) = decide (rows.getD n [] ≤ rows.getD (n + 1) []) := by
      generalize rows.getD n [] = x
      generalize rows.getD (n + 1) [] = y
      rw [sort2]
      by_cases h : x ≤ y
      · rw [if_pos h]; simp [h]
      · rw [if_neg h]
        have : ¬ y = x := fun q => h (by rw [q]; exact List.le_refl _)
        simp [this, h]
    rw [z]
    rw [List.all_cons] at h1 h2
    cases e : decide (rows.getD n [] ≤ rows.getD (n + 1) []) with
    | true =>
      rw [e, Bool.true_and] at h1 h2
      walk_at "r"
      exact asc_loop l _ (fun k hk => hl k (List.mem_cons_of_mem _ hk)) h1 h2
    | false =>
      rw [e] at h2
      walk_at "r"
      exact h2 rfl
section
variable {P : Program} {w : World} {K : PySem.W.Frag} {mg : Str → Option Value} {base : Heap}
theorem d__law_mark (T : Txt K mg) : DefOk P w K mg base RD 1 "_law_mark" ["_law_row", "_law_s", "_law_p"] sp__law_mark := by
  refine dv__law_mark T fun ds m Q Z hl h => ?_
  obtain ⟨row, s, p, rfl, h0, h1, h2, h3, hq⟩ := h
  walk_at "r"
  refine lmark_loop h2 h3 _ 0 1 _ (by omega) (by omega) (by omega) (by omega) fun j k => ?_
  walk_at "r"
  rw [Int.zero_add, Int.one_mul]
  exact hq
theorem d__law_product (T : Txt K mg) : DefOk P w K mg base RD 2 "_law_product" ["_law_rows_here", "_law_s", "_law_t", "_law_p"] sp__law_product := by
  refine dv__law_product T (d__law_mark T) fun ds m Q Z hl h => ?_
  obtain ⟨rows, s, t, p, rfl, h0, h1, h2, h3, hq⟩ := h
  walk_at "r"
  refine lprod_loop h0 h1 h2 h3 _ 1 _ (by omega) (by omega) fun j => ?_
  walk_at "r"
  show Q (.int _) m
  rw [Int.one_mul, Int.emod_emod_of_dvd _ (Int.dvd_refl p)]
  exact hq
theorem d__law_pick (T : Txt K mg) : DefOk P w K mg base RD 2 "_law_pick" ["_law_state_here", "_law_row"] sp__law_pick := by
  refine dv__law_pick T (d__law_draw T) fun ds m Q Z hl h => ?_
  obtain ⟨s, c, l, rfl, hd, h0, h1, hf, hq⟩ := h
  walk_at "r"
  refine ⟨s, c, _, rfl, hd, by omega, by omega, fun r hr0 hr1 => ?_⟩
  walk_at "r"
  obtain ⟨d, e⟩ := get_some hr0 hr1
  refine ⟨_, d, rfl, ?_, ?_⟩
  · unfold atI
    rw [ixN_ok hr0 hr1]
    exact e
  · have hm : d ∈ l := List.mem_of_getElem? e
    exact ⟨(hf d hm), hq d hm⟩
theorem d__law_times (T : Txt K mg) : DefOk P w K mg base RD 1 "_law_times" ["_law_rows_here", "_law_row"] sp__law_times := by
  refine dv__law_times T fun ds m Q Z hl h => ?_
  obtain ⟨rows, row, rfl, hn, hq⟩ := h
  walk_at "r"
  refine lcD_filterT eI (fun o => decide (o = row)) eI rows [] (fun o ho P hP => ?_) (fun _ => trivial) (by rw [List.length_nil]; exact size1000 (by omega)) ?_
  · walk_at "r"
    walk_at "eqI"
    refine hP _ (fun _ P2 h2 => ?_) rfl
    walk_at "w"
    exact h2 _ rfl
  · walk_at "r"
    rw [List.nil_append, List.length_map]
    exact hq
theorem d__law_ascends (T : Txt K mg) : DefOk P w K mg base RD 1 "_law_ascends" ["_law_rows_here"] sp__law_ascends := by
  refine dv__law_ascends T fun ds m Q Z hl h => ?_
  obtain ⟨rows, rfl, hn, hq⟩ := h
  walk_at "w"
  refine ⟨⟨by simp only [List.length_map]; omega, by simp only [List.length_map]; omega⟩, ?_⟩
  have e : (((List.map eI rows).length : Int) - 1).toNat = rows.length - 1 := by simp only [List.length_map]; omega
  walk_at "w"
  rw [e]
  refine asc_loop (rows := rows) (List.range (rows.length - 1)) _ (fun k hk => ?_) (fun hb j => ?_) (fun hb => ?_)
  · have := List.mem_range.mp hk
    omega
  · walk_at "r"
    have hb' : ascV rows = true := hb
    rw [hb'] at hq
    exact hq
  · have hb' : ascV rows = false := hb
    rw [hb'] at hq
    exact hq
end
/-! ### turned -/
theorem turned_loop {E : DEnds RD} {rows : List (List Int)} {m : RD.M} {s c : Addr} {r : D} (hd : m.d = some (s, c)) (hn : rows.length ≤ 1000) : ∀ (n : Nat) (left found : List (List Int)), left.length < n → List.Perm rows (found ++ left) →
    (∀ others, List.Perm rows others → E.nx [.dat (.raw (.ref s)), .dat r, .own [], .own (others.map eI)] m) →
    whileN (bOf (eOp dGt (eCl dLen (aCons (eVar 2) aNil)) (eC (.int 0)))) (b1__law_turned sp_draw) E n [.dat (.raw (.ref s)), .dat r, .own (left.map eI), .own (found.map eI)] m
  | 0, _, _, h, _, _ => by omega
  | n + 1, left, found, hl, hp, h => by
    walk_at "w"
    refine dec2 (fun e => ?_) (fun e => ?_)
    · simp only [List.length_map] at e
      walk_at "w"
      refine ⟨⟨_, rfl⟩, ?_⟩
      walk_at "r"
      refine ⟨⟨_, rfl⟩, ?_⟩
      walk_at "r"
      have hlen := hp.length_eq
      rw [List.length_append] at hlen
      refine ⟨s, c, _, rfl, hd, by simp only [List.length_map]; omega, by simp only [List.length_map]; omega, fun k hk0 hk1 => ?_⟩
      simp only [List.length_map] at hk1
      walk_at "r"
      obtain ⟨row, hr⟩ := get_some hk0 hk1
      refine ⟨⟨by omega, by omega⟩, k.toNat, eI row, seq_ok hk0 (by rw [List.length_map]; exact hk1), by rw [List.getElem?_map, hr]; rfl, ?_⟩
      walk_at "r"
      refine ⟨by rw [List.length_map, sizeLine_eq]; omega, ?_⟩
      walk_at "w"
      have hlt : k.toNat < left.length := by omega
      have e1 : (left.map eI).eraseIdx k.toNat = (left.eraseIdx k.toNat).map eI := eraseIdx_map eI left k.toNat
      have e2 : found.map eI ++ [eI row] = (found ++ [row]).map eI := by rw [List.map_append]; rfl
      rw [e1, e2]
      refine turned_loop hd hn n _ _ ?_ ?_ h
      · rw [List.length_eraseIdx_of_lt hlt]; omega
      · refine hp.trans ?_
        rw [List.append_assoc]
        refine List.Perm.append_left found ?_
        exact erase_perm left _ row hr
    · simp only [List.length_map] at e
      have e0 : left = [] := List.length_eq_zero_iff.mp (by omega)
      subst e0
      rw [List.append_nil] at hp
      exact h found hp
section
variable {P : Program} {w : World} {K : PySem.W.Frag} {mg : Str → Option Value} {base : Heap}
theorem d__law_turned (T : Txt K mg) : DefOk P w K mg base RD 2 "_law_turned" ["_law_state_here", "_law_rows_here"] sp__law_turned := by
  refine dv__law_turned T (d__law_draw T) fun ds m Q Z hl h => ?_
  obtain ⟨s, c, rows, rfl, hd, hn, hq⟩ := h
  walk_at "r"
  refine ⟨rows.length + 1, ?_⟩
  refine turned_loop hd hn _ rows [] (by omega) (List.Perm.refl _) fun others ho => ?_
  walk_at "r"
  exact hq others ho
theorem state_loop {E : DEnds RD} {r : D} {m : RD.M} : ∀ (l : List Int) (sd : Int) (j : En), 0 ≤ sd → sd < 1000004 → (∀ sd j, 0 ≤ sd → sd < 1000004 → E.nx [.dat r, .dat (.int sd), j] m) → forD (tName 2) b1__law_state E (l.map .int) [.dat r, .dat (.int sd), j] m
  | [], sd, j, h0, h1, h => h sd j h0 h1
  | n :: l, sd, j, h0, h1, h => by
    walk_at "r"
    exact state_loop l _ _ (by omega) (by omega) h
theorem d__law_state (T : Txt K mg) : DefOk P w K mg base RD 1 "_law_state" ["_law_script"] sp__law_state := by
  refine dv__law_state T fun ds m Q Z hl h => ?_
  obtain ⟨ns, rfl, hn, hd, hq⟩ := h
  walk_at "r"
  refine state_loop ns 7 _ (by omega) (by omega) fun sd j h0 h1 => ?_
  walk_at "w"
  refine lcD_mapT D.int (fun i : Int => D.int (if i < 0 then -i else i)) ns [] (fun a ha P hP => ?_) (fun _ => trivial) (by rw [List.length_nil]; exact size1000 (by omega)) ?_
  · walk_at "r"
    exact hP _ rfl
  · walk_at "r"
    refine ⟨⟨ns.map fun i : Int => if i < 0 then -i else i, by rw [List.map_map]; rfl, fun n hn => ?_⟩, by omega, by omega, hd, fun s c _ _ => hq s c _ rfl⟩
    obtain ⟨i, _, rfl⟩ := List.mem_map.mp hn
    show 0 ≤ if i < 0 then -i else i
    split <;> omega
theorem d__law_rows (T : Txt K mg) : DefOk P w K mg base RD 3 "_law_rows" ["_law_state_here", "_law_many", "_law_width", "_law_p"] sp__law_rows := by
  refine dv__law_rows T (d__law_draw T) (d__law_pick T) fun ds m Q Z hl h => ?_
  obtain ⟨s, c, many, width, p, rfl, hd, h0, h1, h2, h3, h4, h5, hq⟩ := h
  walk_at "r"
  refine ⟨s, c, _, rfl, hd, by omega, by omega, fun n hn0 hn1 => ?_⟩
  walk_at "r"
  refine ⟨⟨by omega, by omega⟩, ?_⟩
  walk_at "w"
  refine lcD_all (fun k : Nat => D.int (0 + (k : Int) * 1)) eI (fun r => 0 < r.length ∧ r.length ≤ 4 ∧ ∀ i ∈ r, 0 ≤ i ∧ i < 2147483648) _ (fun a ha P hP => ?_) (fun _ => trivial) (by rw [List.length_range]; exact size1000 (by omega)) fun pool hpl hpo => ?_
  · walk_at "w"
    refine ⟨⟨by omega, by omega⟩, ?_⟩
    walk_at "w"
    refine lcD_all (fun k : Nat => D.int (0 + (k : Int) * 1)) D.int (fun i => 0 ≤ i ∧ i < 2147483648) _ (fun a ha P hP => ?_) (fun _ => trivial) (by rw [List.length_range]; exact size1000 (by omega)) fun row hrl hro => ?_
    · walk_at "r"
      refine ⟨s, c, _, rfl, hd, h4, by omega, fun i i0 i1 => hP i _ ⟨i0, by omega⟩ rfl⟩
    · rw [List.length_range] at hrl
      exact hP row _ ⟨by omega, by omega, hro⟩ rfl
  · rw [List.length_range] at hpl
    walk_at "r"
    refine ⟨⟨by omega, by omega⟩, ?_⟩
    walk_at "w"
    refine lcD_all (fun k : Nat => D.int (0 + (k : Int) * 1)) eI (fun r => 0 < r.length ∧ r.length ≤ 4 ∧ ∀ i ∈ r, 0 ≤ i ∧ i < 2147483648) _ (fun a ha P hP => ?_) (fun _ => trivial) (by rw [List.length_range]; exact size1000 (by omega)) fun rows hrl hro => ?_
    · walk_at "r"
      refine ⟨s, c, _, rfl, hd, by rw [List.length_map]; omega, by rw [List.length_map]; omega, fun d hd => by obtain ⟨r, _, rfl⟩ := List.mem_map.mp hd; trivial, fun d hd => ?_⟩
      obtain ⟨r, hr, rfl⟩ := List.mem_map.mp hd
      walk_at "r"
      exact hP r _ (hpo r hr) rfl
    · rw [List.length_range] at hrl
      walk_at "r"
      exact hq rows ⟨by omega, hro⟩
end
end G76

namespace G76
open PySem L2 DL
local macro_rules | `(tactic| walk_at "w") => `(tactic| (conv => whnf))
local macro_rules | `(tactic| walk_at "s") => `(tactic| ((conv => whnf); first
  | refine And.intro trivial ?_ | refine And.intro (And.intro trivial trivial) ?_ | refine And.intro (And.intro trivial (And.intro trivial trivial)) ?_ | refine And.intro (And.intro trivial (And.intro trivial (And.intro trivial trivial))) ?_ | refine And.intro (And.intro trivial (And.intro trivial (And.intro trivial (And.intro trivial trivial)))) ?_ | refine And.intro (And.intro trivial (And.intro trivial (And.intro trivial (And.intro trivial (And.intro trivial trivial))))) ?_
  | refine And.intro (fun (_ : true = true) => ?_) (fun (q : true = false) => Bool.noConfusion q) | refine And.intro (fun (q : false = true) => Bool.noConfusion q) (fun (_ : false = false) => ?_) | refine And.intro rfl ?_
  | refine And.intro (by show (0 : Int) < _; omega) ?_ | refine And.intro (Or.inl (And.intro (by omega) (by omega))) ?_ | refine And.intro (Or.inr (And.intro (by omega) (by omega))) ?_ | refine And.intro (And.intro (by decide) (by decide)) ?_ | refine And.intro (DL.size1000 (Nat.le_of_ble_eq_true rfl)) ?_))
local macro_rules | `(tactic| walk_at "r") => `(tactic| ((repeat walk_at "s"); try walk_at "w"))
local macro_rules | `(tactic| walk_at "eqI") => `(tactic| (refine And.intro (pl_eI _) (And.intro (pl_eI _) (And.intro (shaped_eI _) (And.intro (shaped_eI _) ?_))); rw [eqv_flat_eI]))
local macro_rules | `(tactic| walk_at "eqII") => `(tactic| (refine And.intro (pl_eII _) (And.intro (pl_eII _) (And.intro (shaped_eII _) (And.intro (shaped_eII _) ?_))); rw [eqv_flat_eII]))
/-! ### changed: rows as cells of their own -/
abbrev rawA (a : Addr) : D := .raw (.ref a)
abbrev cellsAt (m : Ms) (as : List Addr) (rows : List (List Int)) : Prop := All2 (fun (a : Addr) (r : List Int) => m.μ a = some (.lst (r.map .int))) as rows
theorem All2.append {α β : Type} {r : α → β → Prop} : ∀ {as as' : List α} {bs bs' : List β}, All2 r as bs → All2 r as' bs' → All2 r (as ++ as') (bs ++ bs')
  | _, _, _, _, .nil, h => h
  | _, _, _, _, .cons x t, h => .cons x (All2.append t h)
theorem All2.impL {α β : Type} {r s : α → β → Prop} : ∀ {as : List α} {bs : List β}, All2 r as bs → (∀ a ∈ as, ∀ b, r a b → s a b) → All2 s as bs
  | _, _, .nil, _ => .nil
  | _, _, .cons x t, h => .cons (h _ (List.mem_cons_self ..) _ x) (All2.impL t fun a ha => h a (List.mem_cons_of_mem _ ha))
theorem All2.mem {α β : Type} {r : α → β → Prop} : ∀ {as : List α} {bs : List β}, All2 r as bs → ∀ a ∈ as, ∃ b, r a b
  | _, _, .cons x t, a, h => by
    rcases List.mem_cons.mp h with e | h
    · exact ⟨_, e ▸ x⟩
    · exact All2.mem t a h
theorem All2.take {α β : Type} {r : α → β → Prop} : ∀ {as : List α} {bs : List β} (n : Nat), All2 r as bs → All2 r (as.take n) (bs.take n)
  | _, _, 0, _ => by rw [List.take_zero, List.take_zero]; exact .nil
  | _, _, n + 1, .nil => .nil
  | _, _, n + 1, .cons x t => .cons x (All2.take n t)
theorem All2.drop {α β : Type} {r : α → β → Prop} : ∀ {as : List α} {bs : List β} (n : Nat), All2 r as bs → All2 r (as.drop n) (bs.drop n)
  | _, _, 0, h => h
  | _, _, n + 1, .nil => .nil
  | _, _, n + 1, .cons x t => All2.drop n t
theorem All2.get {α β : Type} {r : α → β → Prop} : ∀ {as : List α} {bs : List β} (n : Nat) (a : α) (b : β), All2 r as bs → as[n]? = some a → bs[n]? = some b → r a b
  | _, _, _, _, _, .nil, h, _ => by cases h
  | _, _, 0, _, _, .cons x t, h1, h2 => by cases h1; cases h2; exact x
  | _, _, n + 1, a, b, .cons x t, h1, h2 => All2.get n a b t h1 h2
theorem put_new {m : Ms} {a : Addr} {as : List Addr} {rows : List (List Int)} {r : List Int} (h : cellsAt m as rows) (hn : m.μ a = none) : a ∉ as ∧ cellsAt (Ms.put m a (.lst (r.map .int))) (as ++ [a]) (rows ++ [r]) := by
  have na : a ∉ as := fun q => by
    obtain ⟨b, hb⟩ := All2.mem h a q
    rw [hn] at hb
    cases hb
  refine ⟨na, All2.append (All2.impL h fun b hb r' e => ?_) (.cons ?_ .nil)⟩
  · show (if b = a then _ else m.μ b) = _
    have nb : b ≠ a := fun q => na (q ▸ hb)
    rw [if_neg nb]
    exact e
  · show (if a = a then _ else m.μ a) = _
    rw [if_pos rfl]
/-- one cell is written anew -/
theorem put_old {m : Ms} : ∀ {as : List Addr} {rows : List (List Int)} (k : Nat) {a : Addr} (r : List Int), as.Nodup → cellsAt m as rows → as[k]? = some a → cellsAt (Ms.put m a (.lst (r.map .int))) as (rows.set k r)
  | [], _, _, _, _, _, _, h => by cases h
  | b :: as, rows, 0, a, r, hn, h0, h => by
    cases h0 with
    | cons x t =>
    obtain rfl : b = a := Option.some.inj h
    refine .cons (by show (if b = b then _ else m.μ b) = _; rw [if_pos rfl]) (All2.impL t fun c hc r' e => ?_)
    have : c ≠ b := fun q => (List.nodup_cons.mp hn).1 (q ▸ hc)
    show (if c = b then _ else m.μ c) = _
    rw [if_neg this]
    exact e
  | b :: as, rows, k + 1, a, r, hn, h0, h => by
    cases h0 with
    | cons x t =>
    have hm : a ∈ as := List.mem_of_getElem? (i := k) h
    refine .cons ?_ (put_old k r (List.nodup_cons.mp hn).2 t h)
    have : b ≠ a := fun q => (List.nodup_cons.mp hn).1 (q ▸ hm)
    show (if b = a then _ else m.μ b) = _
    rw [if_neg this]
    exact x
theorem res_ints {m : Ms} : ∀ r : List Int, ResAll m (r.map .int) (r.map .int) m
  | [] => .nil
  | i :: r => .cons .same (res_ints r)
theorem res_cells : ∀ {as : List Addr} {m : Ms} {rows : List (List Int)}, as.Nodup → cellsAt m as rows → ∃ m' : Ms, m'.d = m.d ∧ ResAll m (as.map rawA) (rows.map eI) m'
  | [], m, rows, _, h => by cases h; exact ⟨m, rfl, .nil⟩
  | a :: as, m, rows, hn, h => by
    cases h with
    | cons x t =>
    have hn' := List.nodup_cons.mp hn
    have t' : cellsAt (m.del a) as _ := All2.impL t fun c hc r' e => by
      have : c ≠ a := fun q => hn'.1 (q ▸ hc)
      show (if c = a then none else m.μ c) = _
      rw [if_neg this]
      exact e
    obtain ⟨m', hd, hr⟩ := res_cells hn'.2 t'
    exact ⟨m', hd, .cons (.cell x (res_ints _)) hr⟩
section
variable {P : Program} {w : World} {K : PySem.W.Frag} {mg : Str → Option Value} {base : Heap}
theorem d__law_changed (T : Txt K mg) : DefOk P w K mg base RD 2 "_law_changed" ["_law_state_here", "_law_rows_here", "_law_p"] sp__law_changed := by
  refine dv__law_changed T (d__law_draw T) fun ds m Q Z hl h => ?_
  obtain ⟨s, c, rows, p, rfl, hd, hp0, hp1, hn, hrow, hq⟩ := h
  walk_at "r"
  refine lcD_inv eI (fun done acc (m' : Ms) => m'.d = m.d ∧ ∃ as, acc = as.map rawA ∧ as.Nodup ∧ cellsAt m' as done) rows [] [] m ⟨rfl, [], rfl, List.nodup_nil, .nil⟩ (fun r hr done acc m1 hI P hP => ?_) (by rw [List.length_nil]; exact size1000 (by omega)) fun ys m1 hI => ?_
  · obtain ⟨hd1, as, rfl, nd, hc⟩ := hI
    walk_at "r"
    intro a ha hnd
    obtain ⟨na, hc2⟩ := put_new (r := r) hc ha
    refine hP _ _ _ trivial rfl ⟨hd1, as ++ [a], by rw [List.map_append]; rfl, ?_, hc2⟩
    rw [List.nodup_append]
    refine ⟨nd, by simp, fun b hb c hc => ?_⟩
    rw [List.mem_singleton.mp hc]
    exact fun q => na (q ▸ hb)
  · obtain ⟨hd1, as, rfl, nd, hc⟩ := hI
    rw [List.nil_append] at hc
    have hlen : as.length = rows.length := hc.length
    have hd1' : m1.d = some (s, c) := hd1.trans hd
    walk_at "r"
    refine ⟨s, c, 4, rfl, hd1', by omega, by omega, fun kind k0 k1 => ?_⟩
    walk_at "r"
    refine dec2 (fun e => ?_) (fun e => ?_)
    · walk_at "r"
      obtain ⟨m', e', hr⟩ := res_cells nd hc
      refine ⟨_, m', .lst hr, ?_⟩
      walk_at "r"
      exact hq rows m' (e'.trans hd1) (Nat.le_refl _)
    rw [List.length_map] at e
    walk_at "w"
    refine dec2 (fun e2 => ?_) (fun e2 => ?_)
    · walk_at "r"
      obtain ⟨m', e', hr⟩ := res_cells nd hc
      refine ⟨_, m', .lst hr, ?_⟩
      walk_at "r"
      exact hq rows m' (e'.trans hd1) (Nat.le_refl _)
    walk_at "r"
    refine ⟨s, c, _, rfl, hd1', by rw [List.length_map]; omega, by rw [List.length_map]; omega, fun k k0 k1 => ?_⟩
    rw [List.length_map] at k1
    walk_at "r"
    refine dec2 (fun e3 => ?_) (fun e3 => ?_)
    · walk_at "r"
      rw [cut_none_some k0 (by omega), cut_some_none (by omega) (by omega)]
      have e4 : (as.take k.toNat).map rawA ++ (as.drop (k + 1).toNat).map rawA = (as.take k.toNat ++ as.drop (k + 1).toNat).map rawA := by rw [List.map_append]
      have nd2 : (as.take k.toNat ++ as.drop (k + 1).toNat).Nodup := by
        rw [show (k + 1).toNat = k.toNat + 1 by omega, ← List.eraseIdx_eq_take_drop_succ]
        exact nd.sublist (List.eraseIdx_sublist ..)
      have hc2 : cellsAt m1 (as.take k.toNat ++ as.drop (k + 1).toNat) (rows.take k.toNat ++ rows.drop (k + 1).toNat) := All2.append (All2.take _ hc) (All2.drop _ hc)
      obtain ⟨m', e', hr⟩ := res_cells nd2 hc2
      refine ⟨by rw [← List.length_append, e4, List.length_map]; exact size1000 (by rw [List.length_append, List.length_take, List.length_drop]; omega), ?_⟩
      rw [e4]
      walk_at "r"
      refine ⟨_, m', .lst hr, ?_⟩
      walk_at "r"
      exact hq _ m' (e'.trans hd1) (by rw [List.length_append, List.length_take, List.length_drop]; omega)
    · walk_at "r"
      obtain ⟨a, ha⟩ := get_some k0 k1
      obtain ⟨r, hr⟩ := get_some (l := rows) k0 (by omega)
      refine ⟨_, rawA a, rfl, atI_enc k0 ha, ?_⟩
      have hra := All2.get _ _ _ hc ha hr
      have hrm : r ∈ rows := List.mem_of_getElem? hr
      have hr0 := hrow r hrm
      walk_at "r"
      refine ⟨s, c, p, rfl, hd1', hp0, by omega, fun v v0 v1 => ?_⟩
      have vw : ∀ ρ, itemsL (RD.view m1) ρ (rawA a) = some (r.map .int) := fun ρ => by
        show Ms.view m1 a = _
        unfold Ms.view
        rw [hra]
      walk_at "r"
      rw [vw]
      walk_at "r"
      refine ⟨s, c, _, rfl, hd1', by rw [List.length_map]; omega, by rw [List.length_map]; omega, fun x x0 x1 => ?_⟩
      rw [List.length_map] at x1
      walk_at "w"
      refine ⟨_, x.toNat, hra, ixN_ok x0 (by rw [List.length_map]; exact x1), ?_⟩
      have e5 : (r.map D.int).set x.toNat (.int v) = (r.set x.toNat v).map D.int := by rw [List.map_set]
      rw [e5]
      have hc2 := put_old k.toNat (r.set x.toNat v) nd hc ha
      obtain ⟨m', e', hr⟩ := res_cells nd hc2
      walk_at "r"
      refine ⟨_, m', .lst hr, ?_⟩
      walk_at "r"
      exact hq _ m' (e'.trans hd1) (by rw [List.length_set]; exact Nat.le_refl _)
end
end G76

namespace G76
open PySem L2 DL
local macro_rules | `(tactic| walk_at "w") => `(tactic| (conv => whnf))
local macro_rules | `(tactic| walk_at "s") => `(tactic| ((conv => whnf); first
  | refine And.intro trivial ?_ | refine And.intro (And.intro trivial trivial) ?_ | refine And.intro (And.intro trivial (And.intro trivial trivial)) ?_ | refine And.intro (And.intro trivial (And.intro trivial (And.intro trivial trivial))) ?_ | refine And.intro (And.intro trivial (And.intro trivial (And.intro trivial (And.intro trivial trivial)))) ?_ | refine And.intro (And.intro trivial (And.intro trivial (And.intro trivial (And.intro trivial (And.intro trivial trivial))))) ?_ | refine And.intro (And.intro trivial (And.intro trivial (And.intro trivial (And.intro trivial (And.intro trivial (And.intro trivial trivial)))))) ?_ | refine And.intro (And.intro trivial (And.intro trivial (And.intro trivial (And.intro trivial (And.intro trivial (And.intro trivial (And.intro trivial trivial))))))) ?_ | refine And.intro (And.intro trivial (And.intro trivial (And.intro trivial (And.intro trivial (And.intro trivial (And.intro trivial (And.intro trivial (And.intro trivial trivial)))))))) ?_ | refine And.intro (And.intro trivial (And.intro trivial (And.intro trivial (And.intro trivial (And.intro trivial (And.intro trivial (And.intro trivial (And.intro trivial (And.intro trivial trivial))))))))) ?_ | refine And.intro (And.intro trivial (And.intro trivial (And.intro trivial (And.intro trivial (And.intro trivial (And.intro trivial (And.intro trivial (And.intro trivial (And.intro trivial (And.intro trivial trivial)))))))))) ?_
  | refine And.intro (fun (_ : true = true) => ?_) (fun (q : true = false) => Bool.noConfusion q) | refine And.intro (fun (q : false = true) => Bool.noConfusion q) (fun (_ : false = false) => ?_) | refine And.intro rfl ?_
  | refine And.intro (by show (0 : Int) < _; omega) ?_ | refine And.intro (Or.inl (And.intro (by omega) (by omega))) ?_ | refine And.intro (Or.inr (And.intro (by omega) (by omega))) ?_ | refine And.intro (And.intro (by decide) (by decide)) ?_ | refine And.intro (DL.size1000 (Nat.le_of_ble_eq_true rfl)) ?_))
local macro_rules | `(tactic| walk_at "r") => `(tactic| ((repeat walk_at "s"); try walk_at "w"))
local macro_rules | `(tactic| walk_at "eqI") => `(tactic| (refine And.intro (pl_eI _) (And.intro (pl_eI _) (And.intro (shaped_eI _) (And.intro (shaped_eI _) ?_))); rw [eqv_flat_eI]))
local macro_rules | `(tactic| walk_at "eqII") => `(tactic| (refine And.intro (pl_eII _) (And.intro (pl_eII _) (And.intro (shaped_eII _) (And.intro (shaped_eII _) ?_))); rw [eqv_flat_eII]))
/-! ### tables and counts, plain -/
abbrev cnt (rows : List (List Int)) (r : List Int) : Int := ((rows.filter fun o => decide (o = r)).length : Int)
def tab (acc : List (List Int)) (rows : List (List Int)) : List (List Int) := rows.foldl (fun t r => if r ∈ t then t else t ++ [r]) acc
theorem tab_nodup : ∀ (rows acc : List (List Int)), acc.Nodup → (tab acc rows).Nodup
  | [], acc, h => h
  | r :: rows, acc, h => by
    show (tab (if r ∈ acc then acc else acc ++ [r]) rows).Nodup
    refine tab_nodup rows _ ?_
    split
    · exact h
    · rename_i hn
      rw [List.nodup_append]
      refine ⟨h, by simp, fun b hb c hc => ?_⟩
      rw [List.mem_singleton.mp hc]
      exact fun q => hn (q ▸ hb)
theorem tab_acc : ∀ (rows acc : List (List Int)) (r : List Int), r ∈ acc → r ∈ tab acc rows
  | [], acc, r, h => h
  | x :: rows, acc, r, h => by
    show r ∈ tab (if x ∈ acc then acc else acc ++ [x]) rows
    refine tab_acc rows _ r ?_
    split
    · exact h
    · exact List.mem_append_left _ h
theorem tab_mem : ∀ (rows acc : List (List Int)) (r : List Int), r ∈ rows → r ∈ tab acc rows
  | x :: rows, acc, r, h => by
    show r ∈ tab (if x ∈ acc then acc else acc ++ [x]) rows
    rcases List.mem_cons.mp h with e | h
    · subst e
      refine tab_acc rows _ r ?_
      split
      · assumption
      · exact List.mem_append_right _ (List.mem_singleton.mpr rfl)
    · exact tab_mem rows _ r h
theorem tab_len : ∀ (rows acc : List (List Int)), (tab acc rows).length ≤ acc.length + rows.length
  | [], acc => by show acc.length ≤ _; omega
  | x :: rows, acc => by
    show (tab (if x ∈ acc then acc else acc ++ [x]) rows).length ≤ _
    have h := tab_len rows (if x ∈ acc then acc else acc ++ [x])
    refine Nat.le_trans h ?_
    rw [List.length_cons]
    split
    · omega
    · rw [List.length_append, List.length_singleton]; omega
theorem cnt_cons (x : List Int) (rows : List (List Int)) (r : List Int) : cnt (x :: rows) r = cnt rows r + (if x = r then 1 else 0) := by
  unfold cnt
  by_cases h : x = r
  · rw [if_pos h, List.filter_cons_of_pos (by simp [h])]; rfl
  · rw [if_neg h, List.filter_cons_of_neg (by simp [h]), Int.add_zero]
theorem sum_one (f : List Int → Int) (x : List Int) : ∀ table : List (List Int), table.Nodup → (table.map fun r => f r + (if x = r then 1 else 0)).sum = (table.map f).sum + (if x ∈ table then 1 else 0)
  | [], _ => rfl
  | y :: table, h => by
    have h' := List.nodup_cons.mp h
    rw [List.map_cons, List.sum_cons, List.map_cons, List.sum_cons, sum_one f x table h'.2]
    by_cases e : x = y
    · subst e
      rw [if_pos rfl, if_neg h'.1, if_pos (List.mem_cons_self ..)]; omega
    · rw [if_neg e]
      by_cases e2 : x ∈ table
      · rw [if_pos e2, if_pos (List.mem_cons_of_mem _ e2)]; omega
      · rw [if_neg e2, if_neg (fun q => (List.mem_cons.mp q).elim e e2)]; omega
theorem prod_one (s t : Int) (f : List Int → Int) (hf : ∀ r, 0 ≤ f r) (x : List Int) : ∀ table : List (List Int), table.Nodup → prodC s t table (table.map fun r => f r + (if x = r then 1 else 0)) = (if x ∈ table then t - markS s x else 1) * prodC s t table (table.map f)
  | [], _ => by simp [prodC]
  | y :: table, h => by
    have h' := List.nodup_cons.mp h
    rw [List.map_cons, List.map_cons, prodC, prodC, prod_one s t f hf x table h'.2]
    by_cases e : x = y
    · subst e
      have e3 : (f x + 1).toNat = (f x).toNat + 1 := by have := hf x; omega
      rw [if_pos rfl, if_neg h'.1, if_pos (List.mem_cons_self ..), e3, Int.pow_succ]
      grind
    · rw [if_neg e, Int.add_zero]
      by_cases e2 : x ∈ table
      · rw [if_pos e2, if_pos (List.mem_cons_of_mem _ e2)]; grind
      · rw [if_neg e2, if_neg (fun q => (List.mem_cons.mp q).elim e e2)]; grind
theorem cnt_pos (rows : List (List Int)) (r : List Int) : 0 ≤ cnt rows r := Int.natCast_nonneg _
theorem cnt_le (rows : List (List Int)) (r : List Int) : cnt rows r ≤ rows.length := by
  have := List.length_filter_le (fun o => decide (o = r)) rows
  show ((rows.filter fun o => decide (o = r)).length : Int) ≤ _
  omega
theorem sum_cnt : ∀ (rows table : List (List Int)), table.Nodup → (∀ r ∈ rows, r ∈ table) → (table.map (cnt rows)).sum = (rows.length : Int)
  | [], table, _, _ => by
    have : ∀ l : List (List Int), (l.map (cnt [])).sum = 0 := fun l => by
      induction l with
      | nil => rfl
      | cons a l ih => rw [List.map_cons, List.sum_cons, ih]; rfl
    exact this table
  | x :: rows, table, hn, hm => by
    rw [show cnt (x :: rows) = fun r => cnt rows r + (if x = r then 1 else 0) from funext (cnt_cons x rows), sum_one _ x table hn, if_pos (hm x (List.mem_cons_self ..)), sum_cnt rows table hn fun r hr => hm r (List.mem_cons_of_mem _ hr)]
    rfl
theorem prod_cnt (s t : Int) : ∀ (rows table : List (List Int)), table.Nodup → (∀ r ∈ rows, r ∈ table) → prodC s t table (table.map (cnt rows)) = prodS s t rows
  | [], table, _, _ => by
    have : ∀ l : List (List Int), prodC s t l (l.map (cnt [])) = 1 := fun l => by
      induction l with
      | nil => rfl
      | cons a l ih =>
        rw [List.map_cons, prodC, ih]
        show (t - markS s a) ^ (0 : Nat) * 1 = 1
        rw [Int.pow_zero]; rfl
    exact this table
  | x :: rows, table, hn, hm => by
    rw [show cnt (x :: rows) = fun r => cnt rows r + (if x = r then 1 else 0) from funext (cnt_cons x rows), prod_one s t _ (cnt_pos rows) x table hn, if_pos (hm x (List.mem_cons_self ..)), prod_cnt s t rows table hn fun r hr => hm r (List.mem_cons_of_mem _ hr)]
    rfl
def due : List (List Int) → List Int → List (List Int)
  | r :: rs, c :: cs => List.replicate c.toNat r ++ due rs cs
  | _, _ => []
theorem prodS_append (s t : Int) : ∀ a b : List (List Int), prodS s t (a ++ b) = prodS s t a * prodS s t b
  | [], b => by rw [List.nil_append, prodS, Int.one_mul]
  | r :: a, b => by rw [List.cons_append, prodS, prodS, prodS_append s t a b, Int.mul_assoc]
theorem prodS_rep (s t : Int) (r : List Int) : ∀ n : Nat, prodS s t (List.replicate n r) = (t - markS s r) ^ n
  | 0 => by rw [Int.pow_zero]; rfl
  | n + 1 => by rw [List.replicate_succ, prodS, prodS_rep s t r n, Int.pow_succ, Int.mul_comm]
theorem due_prod (s t : Int) : ∀ (table : List (List Int)) (cs : List Int), table.length = cs.length → prodS s t (due table cs) = prodC s t table cs
  | [], [], _ => rfl
  | r :: table, c :: cs, h => by
    rw [due, prodC, prodS_append, prodS_rep, due_prod s t table cs (by simpa using h)]
theorem due_len : ∀ (table : List (List Int)) (cs : List Int), table.length = cs.length → (∀ c ∈ cs, 0 ≤ c) → ((due table cs).length : Int) = cs.sum
  | [], [], _, _ => rfl
  | r :: table, c :: cs, h, hc => by
    have h1 := due_len table cs (by simpa using h) fun c hc' => hc c (List.mem_cons_of_mem _ hc')
    have h2 := hc c (List.mem_cons_self ..)
    rw [due, List.length_append, List.length_replicate, List.sum_cons]
    omega
theorem due_le : ∀ (table : List (List Int)) (cs : List Int) (n : Nat), (∀ c ∈ cs, c ≤ n) → (due table cs).length ≤ table.length * n
  | [], _, _, _ => by rw [due] <;> simp
  | _ :: _, [], _, _ => by rw [due] <;> simp
  | r :: table, c :: cs, n, hc => by
    have h1 := due_le table cs n fun c hc' => hc c (List.mem_cons_of_mem _ hc')
    have h2 := hc c (List.mem_cons_self ..)
    rw [due, List.length_append, List.length_replicate, List.length_cons, Nat.add_mul]
    omega
/-! ### the table's loop -/
theorem tab_loop {sp1 : SpD RD} {sp2 : SpD RD} {sp3 : SpD RD} {sp4 : SpD RD} {E : DEnds RD} {m : RD.M} {a b c d e : En} {tl : List En} : ∀ (l acc : List (List Int)) (j : En), acc.length + l.length ≤ 1000 →
    (∀ j, E.nx (a :: b :: c :: d :: e :: .own ((tab acc l).map eI) :: j :: tl) m) → forD (tName 6) (b1__law_among_right sp1 sp2 sp3 sp4) E (l.map eI) (a :: b :: c :: d :: e :: .own (acc.map eI) :: j :: tl) m
  | [], acc, j, _, h => h j
  | r :: l, acc, j, hl, h => by
    rw [List.length_cons] at hl
    walk_at "r"
    refine And.intro (pl_eI r) (And.intro (pl_eII acc) (And.intro (shaped_eI r) (And.intro (shaped_eII acc) ?_)))
    walk_at "w"
    rw [any_eI]
    refine ndec2 (fun hn => ?_) (fun hn => ?_)
    · walk_at "w"
      refine ⟨⟨_, rfl⟩, ?_⟩
      walk_at "r"
      refine ⟨by rw [List.length_map]; exact Nat.lt_of_lt_of_le (by omega) (size1000 (Nat.le_refl 1000)), ?_⟩
      walk_at "w"
      have e1 : acc.map eI ++ [eI r] = (acc ++ [r]).map eI := by rw [List.map_append]; rfl
      rw [e1]
      refine tab_loop l _ _ (by rw [List.length_append, List.length_singleton]; omega) fun j => ?_
      have h' := h j
      rw [show tab acc (r :: l) = tab (acc ++ [r]) l by show tab (if r ∈ acc then acc else acc ++ [r]) l = _; rw [if_neg hn]] at h'
      exact h'
    · walk_at "r"
      refine tab_loop l _ _ (by omega) fun j => ?_
      have h' := h j
      rw [show tab acc (r :: l) = tab acc l by show tab (if r ∈ acc then acc else acc ++ [r]) l = _; rw [if_pos hn]] at h'
      exact h'
theorem due_loop {sp1 : SpD RD} {sp2 : SpD RD} {sp3 : SpD RD} {sp4 : SpD RD} {E : DEnds RD} {m : RD.M} {a0 a1 a2 a3 a4 a6 a7 a8 a9 a10 a14 a15 : En} {table : List (List Int)} {moved : List Int} (hc : ∀ c ∈ moved, 0 ≤ c ∧ c ≤ 13) (hlm : table.length = moved.length) (hlt : table.length ≤ 13) : ∀ (suf : List (List Int)) (ms : List Int) (n : Nat) (acc : List (List Int)) (j : En), suf.length = ms.length → n + suf.length = table.length → (∀ i, table[n + i]? = suf[i]?) → (∀ i, moved[n + i]? = ms[i]?) → acc.length ≤ 13 * n →
    (∀ j, E.nx (a0 :: a1 :: a2 :: a3 :: a4 :: .dat (eII table) :: a6 :: a7 :: a8 :: a9 :: a10 :: .own (moved.map .int) :: .dat (eII (acc ++ due suf ms))   :: j :: [a14, a15, .un]) m) → forD (tName 13) (b2__law_among_right sp1 sp2 sp3 sp4) E ((List.range' n suf.length).map fun k : Nat => D.int (0 + (k : Int) * 1)) (a0 :: a1 :: a2 :: a3 :: a4 :: .dat (eII table) :: a6 :: a7 :: a8 :: a9 :: a10 :: .own (moved.map .int) :: .dat (eII acc)   :: j :: [a14, a15, .un]) m
  | [], [], n, acc, j, _, _, _, _, _, h => by
    have := h j
    rw [show due [] [] = [] from rfl, List.append_nil] at this
    exact this
  | r :: suf, c :: ms, n, acc, j, hl, hnl, ht, hm, ha, h => by
    have hr : table[n]? = some r := ht 0
    have hc0 : moved[n]? = some c := hm 0
    have hcm := hc c (List.mem_of_getElem? hc0)
    rw [List.length_cons] at hnl
    have g1 : atI (table.map eI) (0 + (n : Int) * 1) = some (eI r) := by
      rw [show (0 + (n : Int) * 1) = (n : Int) by omega]
      exact atI_enc (by omega) hr
    have g2 : atI (moved.map D.int) (0 + (n : Int) * 1) = some (D.int c) := by
      rw [show (0 + (n : Int) * 1) = (n : Int) by omega]
      exact atI_enc (by omega) hc0
    walk_at "r"
    refine ⟨_, _, rfl, g2, ?_⟩
    walk_at "w"
    refine ⟨⟨by omega, by omega⟩, ?_⟩
    walk_at "w"
    refine lcD_mapT (fun k : Nat => D.int (0 + (k : Int) * 1)) (fun _ => eI r) (List.range c.toNat) [] (fun k hk P hP => ?_) (fun _ => trivial) (by rw [List.length_range]; exact size1000 (by rw [List.length_nil]; omega)) ?_
    · walk_at "r"
      exact ⟨_, _, rfl, g1, hP _ rfl⟩
    · have e1 : ([] : List D) ++ (List.range c.toNat).map (fun _ => eI r) = (List.replicate c.toNat r).map eI := by
        rw [List.nil_append, List.map_const', List.length_range, List.map_replicate]
      rw [e1]
      have e2 : acc.map eI ++ (List.replicate c.toNat r).map eI = (acc ++ List.replicate c.toNat r).map eI := by rw [List.map_append]
      walk_at "w"
      refine ⟨by rw [List.length_map, List.length_map, List.length_replicate]; exact size1000 (by omega), ?_⟩
      rw [e2]
      walk_at "r"
      refine due_loop hc hlm hlt suf ms (n + 1) _ _ (by simpa using hl) (by omega) (fun i => ?_) (fun i => ?_) (by rw [List.length_append, List.length_replicate]; omega) fun j => ?_
      · have := ht (i + 1)
        rw [List.getElem?_cons_succ] at this
        rw [← this]; congr 1; omega
      · have := hm (i + 1)
        rw [List.getElem?_cons_succ] at this
        rw [← this]; congr 1; omega
      · rw [List.append_assoc]
        exact h j
section
variable {P : Program} {w : World} {K : PySem.W.Frag} {mg : Str → Option Value} {base : Heap}
theorem d__law_among_right (T : Txt K mg) : DefOk P w K mg base RD 4 "_law_among_right" ["_law_state_here", "_law_rows_here", "_law_s", "_law_t", "_law_p"] sp__law_among_right := by
  refine dv__law_among_right T (d__law_draw T) (d__law_times T) ((d_among T).lift RD) (d__law_product T) fun ds m Q Z hl h => ?_
  obtain ⟨a, c, rows, s, t, p, rfl, hd, ⟨hn, hrow⟩, h0, h1, h2, h3, hq⟩ := h
  walk_at "r"
  refine lcD_mapT eI (fun r : List Int => D.int r.length) rows [] (fun r hr P hP => ?_) (fun _ => trivial) (by rw [List.length_nil]; exact size1000 (by omega)) ?_
  · walk_at "r"
    have : (r.map D.int).length = r.length := List.length_map ..
    rw [this]
    exact hP _ rfl
  walk_at "r"
  refine ⟨by rw [List.nil_append, List.length_map]; exact size1000 (by show 1 + rows.length ≤ 1000; omega), ?_⟩
  walk_at "r"
  refine ⟨_, 1 :: rows.map fun r => (r.length : Int), rfl, ?_, by rw [List.length_cons]; omega, fun mx hmx _ => ?_⟩
  · show some _ = some _
    rw [List.map_cons, List.map_map]
    rfl
  have mx0 : 0 ≤ mx ∧ mx ≤ 4 := by
    rcases List.mem_cons.mp hmx with e | h
    · omega
    · obtain ⟨r, hr, rfl⟩ := List.mem_map.mp h
      have := hrow r hr
      omega
  walk_at "w"
  refine ⟨⟨by omega, by omega⟩, ?_⟩
  walk_at "w"
  refine lcD_all (fun k : Nat => D.int (0 + (k : Int) * 1)) D.int (fun _ => True) _ (fun _ ha P hP => ?_) (fun _ => trivial) (by rw [List.length_range]; exact size1000 (by omega)) fun row hrl _ => ?_
  · walk_at "r"
    exact ⟨a, c, p, rfl, hd, by omega, by omega, fun i _ _ => hP i _ trivial rfl⟩
  walk_at "r"
  refine ⟨by rw [List.length_map]; exact size1000 (by show rows.length + 1 ≤ 1000; omega), ?_⟩
  walk_at "w"
  have e1 : rows.map eI ++ [D.lst (row.map .int)] = (rows ++ [row]).map eI := by rw [List.map_append]; rfl
  rw [e1]
  refine tab_loop (rows ++ [row]) [] .un (by rw [List.length_append, List.length_singleton, List.length_nil]; omega) fun j => ?_
  have tl0 := tab_len (rows ++ [row]) []
  rw [List.length_append, List.length_singleton, List.length_nil] at tl0
  have tn := tab_nodup (rows ++ [row]) [] List.nodup_nil
  have tm : ∀ r ∈ rows, r ∈ tab [] (rows ++ [row]) := fun r hr => tab_mem _ _ r (List.mem_append_left _ hr)
  have tr : row ∈ tab [] (rows ++ [row]) := tab_mem _ _ row (List.mem_append_right _ (List.mem_singleton.mpr rfl))
  generalize tab [] (rows ++ [row]) = table at tl0 tn tm tr
  have tpos : 0 < table.length := List.length_pos_of_mem tr
  walk_at "r"
  refine lcD_mapT eI (fun r : List Int => D.int (cnt rows r)) table [] (fun r hr P hP => ?_) (fun _ => trivial) (by rw [List.length_nil]; exact size1000 (by omega)) ?_
  · walk_at "r"
    exact ⟨rows, r, rfl, by omega, hP _ rfl⟩
  have e2 : ([] : List D) ++ table.map (fun r => D.int (cnt rows r)) = (table.map (cnt rows)).map D.int := by rw [List.nil_append, List.map_map]; rfl
  rw [e2]
  have cl : (table.map (cnt rows)).length = table.length := List.length_map ..
  have cs := sum_cnt rows table tn tm
  have cp := prod_cnt s t rows table tn tm
  have cb : ∀ x ∈ table.map (cnt rows), 0 ≤ x ∧ x ≤ 12 := fun x hx => by
    obtain ⟨r, _, rfl⟩ := List.mem_map.mp hx
    have h1 := cnt_pos rows r
    have h2 := cnt_le rows r
    exact ⟨h1, by omega⟩
  generalize table.map (cnt rows) = counts at cl cs cp cb
  walk_at "r"
  refine ⟨rows, table, counts, s, t, p, rfl, h0, h1, h2, h3, fun x hx => (cb x hx).1, ?_⟩
  have z1 : amongV s t p rows table counts = true := decide_eq_true ⟨cl, cs, by rw [cp]⟩
  rw [z1]
  walk_at "r"
  refine ⟨a, c, _, rfl, hd, by rw [List.length_map]; omega, by rw [List.length_map]; omega, fun k k0 k1 => ?_⟩
  rw [List.length_map] at k1
  obtain ⟨ck, hk⟩ := get_some (l := counts) k0 k1
  have hckm := cb ck (List.mem_of_getElem? hk)
  walk_at "r"
  refine ⟨_, _, rfl, atI_enc k0 hk, ?_⟩
  walk_at "r"
  refine ⟨a, c, 3, rfl, hd, by omega, by omega, fun x x0 x1 => ?_⟩
  walk_at "r"
  rw [cut_none_some k0 (by omega)]
  have e3 : (counts.take k.toNat).map D.int ++ [D.int (ck + 1 + x)] = (counts.take k.toNat ++ [ck + 1 + x]).map D.int := by rw [List.map_append]; rfl
  rw [e3]
  refine ⟨by rw [← List.length_append, e3, List.length_map]; exact size1000 (by rw [List.length_append, List.length_take, List.length_singleton]; omega), ?_⟩
  walk_at "r"
  rw [cut_some_none (by omega) (by omega)]
  have e4 : (counts.take k.toNat ++ [ck + 1 + x]).map D.int ++ (counts.drop (k + 1).toNat).map D.int = (counts.take k.toNat ++ [ck + 1 + x] ++ counts.drop (k + 1).toNat).map D.int := List.map_append.symm
  rw [e4]
  refine ⟨by rw [← List.length_append, e4, List.length_map]; exact size1000 (by rw [List.length_append, List.length_append, List.length_take, List.length_drop, List.length_singleton]; omega), ?_⟩
  walk_at "r"
  refine ⟨a, c, _, rfl, hd, by rw [List.length_map]; omega, by rw [List.length_map]; omega, fun j2 j0 j1 => ?_⟩
  rw [List.length_map] at j1
  walk_at "r"
  refine ⟨_, _, rfl, atI_enc k0 hk, ?_⟩
  walk_at "r"
  refine ⟨⟨_, rfl⟩, ?_⟩
  walk_at "r"
  refine ⟨k.toNat, ixN_ok k0 (by rw [List.length_map]; omega), ?_⟩
  have e5 : (counts.map D.int).set k.toNat (.int (ck + 1)) = (counts.set k.toNat (ck + 1)).map D.int := by rw [List.map_set]
  rw [e5]
  have cl1 : (counts.set k.toNat (ck + 1)).length = counts.length := List.length_set
  have cb1 : ∀ x ∈ counts.set k.toNat (ck + 1), 0 ≤ x ∧ x ≤ 13 := fun x hx => by
    rcases List.mem_or_eq_of_mem_set hx with h | h
    · have := cb x h; omega
    · omega
  generalize counts.set k.toNat (ck + 1) = mv1 at cl1 cb1
  obtain ⟨cj, hj⟩ := get_some (l := mv1) j0 (by omega)
  have hcjm := cb1 cj (List.mem_of_getElem? hj)
  walk_at "r"
  refine ⟨_, _, rfl, atI_enc j0 hj, ?_⟩
  walk_at "r"
  refine ⟨⟨_, rfl⟩, ?_⟩
  walk_at "r"
  refine ⟨j2.toNat, ixN_ok j0 (by rw [List.length_map]; omega), ?_⟩
  have e6 : (mv1.map D.int).set j2.toNat ((fun i j => D.int (if j > i then j else i)) 0 (cj - 1)) = (mv1.set j2.toNat (if cj - 1 > 0 then cj - 1 else 0)).map D.int := by rw [List.map_set]
  rw [e6]
  have cl2 : (mv1.set j2.toNat (if cj - 1 > 0 then cj - 1 else 0)).length = mv1.length := List.length_set
  have cb2 : ∀ x ∈ mv1.set j2.toNat (if cj - 1 > 0 then cj - 1 else 0), 0 ≤ x ∧ x ≤ 13 := fun x hx => by
    rcases List.mem_or_eq_of_mem_set hx with h | h
    · exact cb1 x h
    · split at h <;> omega
  generalize mv1.set j2.toNat (if cj - 1 > 0 then cj - 1 else 0) = mv at cl2 cb2
  walk_at "r"
  refine ⟨⟨by omega, by rw [List.length_map]; omega⟩, ?_⟩
  walk_at "w"
  have e7 : numsD 0 1 ((table.map eI).length : Int).toNat = (List.range' 0 table.length).map fun k : Nat => D.int (0 + (k : Int) * 1) := by
    rw [List.length_map, Int.toNat_natCast, numsD, List.range_eq_range']
  rw [e7]
  refine due_loop (moved := mv) cb2 (by omega) (by omega) table mv 0 [] .un (by omega) (by omega) (fun i => by rw [Nat.zero_add]) (fun i => by rw [Nat.zero_add]) (by rw [List.length_nil]; omega) fun j3 => ?_
  have dl := due_len table mv (by omega) fun x hx => (cb2 x hx).1
  have dp := due_prod s t table mv (by omega)
  rw [List.nil_append]
  generalize due table mv = du at dl dp
  have z2 : amongV s t p rows table (counts.take k.toNat ++ [ck + 1 + x] ++ counts.drop (k + 1).toNat) = false := decide_eq_false fun q => by
    have hkl : k.toNat < counts.length := by omega
    have e8 : counts = counts.take k.toNat ++ [ck] ++ counts.drop (k + 1).toNat := by
      rw [show (k + 1).toNat = k.toNat + 1 by omega, List.append_assoc]
      have h9 : counts.drop k.toNat = ck :: counts.drop (k.toNat + 1) := by
        rw [List.drop_eq_getElem_cons hkl]
        congr 1
        exact Option.some.inj ((List.getElem?_eq_getElem hkl).symm.trans hk)
      rw [List.singleton_append, ← h9, List.take_append_drop]
    have q2 := q.2.1
    rw [e8] at cs
    simp only [List.sum_append, List.sum_cons, List.sum_nil] at q2 cs
    omega
  have z3 : amongV s t p rows table (counts.drop (1 : Int).toNat) = false := decide_eq_false fun q => by
    have := q.1
    rw [List.length_drop] at this
    have e9 : (1 : Int).toNat = 1 := rfl
    rw [e9] at this
    omega
  have n2 : ∀ y ∈ counts.take k.toNat ++ [ck + 1 + x] ++ counts.drop (k + 1).toNat, 0 ≤ y := fun y hy => by
    rcases List.mem_append.mp hy with hy | hy
    · rcases List.mem_append.mp hy with hy | hy
      · exact (cb y (List.mem_of_mem_take hy)).1
      · rw [List.mem_singleton.mp hy]; omega
    · exact (cb y (List.mem_of_mem_drop hy)).1
  have n3 : ∀ y ∈ counts.drop (1 : Int).toNat, 0 ≤ y := fun y hy => (cb y (List.mem_of_mem_drop hy)).1
  walk_at "w"
  refine dec2 (fun hh => ?_) (fun hh => ?_)
  · walk_at "r"
    refine ⟨du, s, t, p, rfl, h0, h1, h2, h3, ?_⟩
    walk_at "r"
    refine ⟨rows, s, t, p, rfl, h0, h1, h2, h3, ?_⟩
    simp only [List.length_map] at hh
    have vb : amongV s t p rows table mv = decide (prodS s t du % p = prodS s t rows % p) := by
      unfold amongV
      congr 1
      rw [← dp, eq_iff_iff]
      exact ⟨fun q => q.2.2, fun q => ⟨by omega, by omega, q⟩⟩
    walk_at "r"
    refine ⟨rows, table, _, s, t, p, rfl, h0, h1, h2, h3, n2, ?_⟩
    rw [z2]
    walk_at "r"
    rw [cut_some_none (by omega) (by omega)]
    walk_at "r"
    refine ⟨rows, table, _, s, t, p, rfl, h0, h1, h2, h3, n3, ?_⟩
    rw [z3]
    walk_at "r"
    refine ⟨rows, table, mv, s, t, p, rfl, h0, h1, h2, h3, fun y hy => (cb2 y hy).1, ?_⟩
    walk_at "r"
    rw [vb, decide_eq_true rfl]
    exact hq m rfl
  · simp only [List.length_map] at hh
    have vb : amongV s t p rows table mv = false := decide_eq_false fun q => hh (by have := q.2.1; omega)
    walk_at "r"
    refine ⟨rows, table, _, s, t, p, rfl, h0, h1, h2, h3, n2, ?_⟩
    rw [z2]
    walk_at "r"
    rw [cut_some_none (by omega) (by omega)]
    walk_at "r"
    refine ⟨rows, table, _, s, t, p, rfl, h0, h1, h2, h3, n3, ?_⟩
    rw [z3]
    walk_at "r"
    refine ⟨rows, table, mv, s, t, p, rfl, h0, h1, h2, h3, fun y hy => (cb2 y hy).1, ?_⟩
    walk_at "r"
    rw [vb, decide_eq_true rfl]
    exact hq m rfl
end
end G76

namespace G76
open PySem L2 DL
local macro_rules | `(tactic| walk_at "w") => `(tactic| (conv => whnf))
local macro_rules | `(tactic| walk_at "s") => `(tactic| ((conv => whnf); first
  | refine And.intro trivial ?_ | refine And.intro (And.intro trivial trivial) ?_ | refine And.intro (And.intro trivial (And.intro trivial trivial)) ?_ | refine And.intro (And.intro trivial (And.intro trivial (And.intro trivial trivial))) ?_ | refine And.intro (And.intro trivial (And.intro trivial (And.intro trivial (And.intro trivial trivial)))) ?_ | refine And.intro (And.intro trivial (And.intro trivial (And.intro trivial (And.intro trivial (And.intro trivial trivial))))) ?_ | refine And.intro (And.intro trivial (And.intro trivial (And.intro trivial (And.intro trivial (And.intro trivial (And.intro trivial trivial)))))) ?_ | refine And.intro (And.intro trivial (And.intro trivial (And.intro trivial (And.intro trivial (And.intro trivial (And.intro trivial (And.intro trivial trivial))))))) ?_ | refine And.intro (And.intro trivial (And.intro trivial (And.intro trivial (And.intro trivial (And.intro trivial (And.intro trivial (And.intro trivial (And.intro trivial trivial)))))))) ?_ | refine And.intro (And.intro trivial (And.intro trivial (And.intro trivial (And.intro trivial (And.intro trivial (And.intro trivial (And.intro trivial (And.intro trivial (And.intro trivial trivial))))))))) ?_ | refine And.intro (And.intro trivial (And.intro trivial (And.intro trivial (And.intro trivial (And.intro trivial (And.intro trivial (And.intro trivial (And.intro trivial (And.intro trivial (And.intro trivial trivial)))))))))) ?_
  | refine And.intro (fun (_ : true = true) => ?_) (fun (q : true = false) => Bool.noConfusion q) | refine And.intro (fun (q : false = true) => Bool.noConfusion q) (fun (_ : false = false) => ?_) | refine And.intro rfl ?_
  | refine And.intro (by show (0 : Int) < _; omega) ?_ | refine And.intro (Or.inl (And.intro (by omega) (by omega))) ?_ | refine And.intro (Or.inr (And.intro (by omega) (by omega))) ?_ | refine And.intro (And.intro (by decide) (by decide)) ?_ | refine And.intro (DL.size1000 (Nat.le_of_ble_eq_true rfl)) ?_))
local macro_rules | `(tactic| walk_at "r") => `(tactic| ((repeat walk_at "s"); try walk_at "w"))
local macro_rules | `(tactic| walk_at "eqI") => `(tactic| (refine And.intro (pl_eI _) (And.intro (pl_eI _) (And.intro (shaped_eI _) (And.intro (shaped_eI _) ?_))); rw [eqv_flat_eI]))
local macro_rules | `(tactic| walk_at "eqII") => `(tactic| (refine And.intro (pl_eII _) (And.intro (pl_eII _) (And.intro (shaped_eII _) (And.intro (shaped_eII _) ?_))); rw [eqv_flat_eII]))
/-! ### the law -/
theorem outs_loop {E : DEnds RD} {m : RD.M} {a0 a1 a2 a7 a8 a9 a10 a11 a15 : En} {rows : List (List Int)} {s t p : Int} (h0 : 0 ≤ s) (h1 : s < p) (h2 : 2 ≤ p) (h3 : p ≤ 2147483647) : ∀ (outs : List (List (List Int))) (j12 j13 j14 : En), (∀ o ∈ outs, o.length ≤ 1000) →
    (∀ j12 j13 j14, E.nx [a0, a1, a2, .dat (.int p), .dat (eII rows), .dat (.int s), .dat (.int t), a7, a8, a9, a10, a11, j12, j13, j14, a15] m) →
    forD (tName 12) (b1_law sp__law_state sp__law_pick sp__law_rows sp_draw sp__law_turned sp__law_changed (liftSp sp_mark) sp__law_mark (liftSp sp_product) sp__law_product (liftSp sp_same_bag) sp__law_ascends (liftSp sp_in_order) (liftSp sp_sorted_claim) sp__law_among_right) E (outs.map eII) [a0, a1, a2, .dat (.int p), .dat (eII rows), .dat (.int s), .dat (.int t), a7, a8, a9, a10, a11, j12, j13, j14, a15] m
  | [], j12, j13, j14, _, h => h j12 j13 j14
  | o :: outs, j12, j13, j14, hol, h => by
    have ho := hol o (List.mem_cons_self ..)
    walk_at "r"
    refine ⟨o, rfl, ho, ?_⟩
    walk_at "r"
    refine dec2 (fun hh => ?_) (fun hh => ?_)
    · walk_at "r"
      refine ⟨o, s, t, p, rfl, h0, h1, h2, h3, ?_⟩
      walk_at "r"
      refine ⟨rows, s, t, p, rfl, h0, h1, h2, h3, ?_⟩
      simp only [List.length_map] at hh
      have vb : decide (rows.length = o.length ∧ prodS s t rows % p = prodS s t o % p) = decide (prodS s t o % p = prodS s t rows % p) := by
        congr 1
        rw [eq_iff_iff]
        exact ⟨fun q => q.2.symm, fun q => ⟨by omega, q.symm⟩⟩
      walk_at "r"
      refine ⟨o, rfl, ho, ?_⟩
      walk_at "w"
      rw [decide_eq_true rfl]
      walk_at "r"
      refine ⟨rows, o, s, t, p, rfl, h0, h1, h2, h3, ho, ?_⟩
      cases e : ascV o with
      | false =>
        walk_at "r"
        exact outs_loop h0 h1 h2 h3 outs _ _ _ (fun o h => hol o (List.mem_cons_of_mem _ h)) h
      | true =>
        walk_at "w"
        rw [vb]
        walk_at "r"
        first
        | exact outs_loop h0 h1 h2 h3 outs _ _ _ (fun o h => hol o (List.mem_cons_of_mem _ h)) h
        | rw [Bool.true_and, decide_eq_true rfl]
          walk_at "r"
          exact outs_loop h0 h1 h2 h3 outs _ _ _ (fun o h => hol o (List.mem_cons_of_mem _ h)) h
    · simp only [List.length_map] at hh
      have vb : decide (rows.length = o.length ∧ prodS s t rows % p = prodS s t o % p) = false := decide_eq_false fun q => hh (by have := q.1; omega)
      walk_at "r"
      refine ⟨o, rfl, ho, ?_⟩
      walk_at "w"
      rw [decide_eq_true rfl]
      walk_at "r"
      refine ⟨rows, o, s, t, p, rfl, h0, h1, h2, h3, ho, ?_⟩
      cases e : ascV o with
      | false =>
        walk_at "r"
        exact outs_loop h0 h1 h2 h3 outs _ _ _ (fun o h => hol o (List.mem_cons_of_mem _ h)) h
      | true =>
        walk_at "w"
        rw [vb]
        walk_at "r"
        first
        | exact outs_loop h0 h1 h2 h3 outs _ _ _ (fun o h => hol o (List.mem_cons_of_mem _ h)) h
        | rw [Bool.true_and, decide_eq_true rfl]
          walk_at "r"
          exact outs_loop h0 h1 h2 h3 outs _ _ _ (fun o h => hol o (List.mem_cons_of_mem _ h)) h
theorem law_loop {E : DEnds RD} {a0 : En} {s c : Addr} (hE : ∀ ρ m, ∀ j2 j3 j4 j5 j6 j7 j8 j9 j10 j11 j12 j13 j14 j15, ρ = [a0, .dat (.raw (.ref s)), j2, j3, j4, j5, j6, j7, j8, j9, j10, j11, j12, j13, j14, j15] → E.nx ρ m) : ∀ (xs : List D) (m : RD.M) (j2 j3 j4 j5 j6 j7 j8 j9 j10 j11 j12 j13 j14 j15 : En), m.d = some (s, c) →
    forD (tName 2) (b2_law sp__law_state sp__law_pick sp__law_rows sp_draw sp__law_turned sp__law_changed (liftSp sp_mark) sp__law_mark (liftSp sp_product) sp__law_product (liftSp sp_same_bag) sp__law_ascends (liftSp sp_in_order) (liftSp sp_sorted_claim) sp__law_among_right) E xs [a0, .dat (.raw (.ref s)), j2, j3, j4, j5, j6, j7, j8, j9, j10, j11, j12, j13, j14, j15] m
  | [], m, j2, j3, j4, j5, j6, j7, j8, j9, j10, j11, j12, j13, j14, j15, _ => hE _ m j2 j3 j4 j5 j6 j7 j8 j9 j10 j11 j12 j13 j14 j15 rfl
  | x :: xs, m, j2, j3, j4, j5, j6, j7, j8, j9, j10, j11, j12, j13, j14, j15, hd => by
    walk_at "r"
    refine ⟨s, c, _, rfl, hd, by decide, by decide, fun d hm => ?_, fun d hm => ?_⟩
    · simp only [List.mem_cons, List.not_mem_nil, or_false] at hm
      rcases hm with rfl | rfl | rfl | rfl | rfl | rfl | rfl <;> trivial
    obtain ⟨p, rfl, h2, h3⟩ : ∃ p : Int, d = .int p ∧ 2 ≤ p ∧ p ≤ 2147483647 := by
      simp only [List.mem_cons, List.not_mem_nil, or_false] at hm
      rcases hm with rfl | rfl | rfl | rfl | rfl | rfl | rfl <;> exact ⟨_, rfl, by decide, by decide⟩
    walk_at "r"
    refine ⟨s, c, 13, rfl, hd, by decide, by decide, fun many hm0 hm1 => ?_⟩
    walk_at "r"
    refine ⟨s, c, 4, rfl, hd, by decide, by decide, fun width hw0 hw1 => ?_⟩
    walk_at "r"
    refine ⟨s, c, many, _, p, rfl, hd, hm0, by omega, by omega, by omega, by omega, by omega, fun rows hrows => ?_⟩
    have hrows' := hrows
    obtain ⟨hn, hrow⟩ := hrows'
    have N := nice_eII (l := rows) (k := 12) (c := 4) (fun r hr => ⟨(hrow r hr).2.1, fun i hi => by have := (hrow r hr).2.2 i hi; omega⟩) hn
    have dp : (eII rows).toP.depth ≤ 60 := Nat.le_trans (depth_eII rows) (by decide)
    walk_at "r"
    refine ⟨s, c, p, rfl, hd, by omega, by omega, fun sv h0 h1 => ?_⟩
    walk_at "r"
    refine ⟨s, c, p, rfl, hd, by omega, by omega, fun t t0 t1 => ?_⟩
    walk_at "r"
    refine ⟨pl_eII rows, N.show_, N.dict, dp, N.shown_le dp (by decide), ?_⟩
    walk_at "r"
    refine ⟨s, c, rows, rfl, hd, by omega, fun turned hp => ?_⟩
    walk_at "r"
    have hpl := hp.length_eq
    refine ⟨s, c, turned, p, rfl, hd, by omega, h3, by omega, fun r hr => ?_, fun other m1 hd1 hol => ?_⟩
    · have := hrow r (hp.mem_iff.mpr hr); omega
    have hd' : m1.d = some (s, c) := hd1.trans hd
    walk_at "r"
    refine lcD_mapT eI (fun r : List Int => D.int (markS sv r % p)) rows [] (fun r hr P hP => ?_) (fun _ => trivial) (by rw [List.length_nil]; exact size1000 (by omega)) ?_
    · walk_at "r"
      exact ⟨r, sv, p, rfl, h0, h1, h3, hP _ rfl⟩
    walk_at "w"
    refine lcD_mapT eI (fun r : List Int => D.int (markS sv r % p)) rows [] (fun r hr P hP => ?_) (fun _ => trivial) (by rw [List.length_nil]; exact size1000 (by omega)) ?_
    · walk_at "r"
      exact ⟨r, sv, p, rfl, h0, h1, h2, h3, hP _ rfl⟩
    have e1 : ([] : List D) ++ rows.map (fun r => D.int (markS sv r % p)) = (rows.map fun r => markS sv r % p).map D.int := by rw [List.nil_append, List.map_map]; rfl
    rw [e1]
    walk_at "w"
    walk_at "eqI"
    rw [decide_eq_true rfl]
    walk_at "r"
    refine ⟨rows, sv, t, p, rfl, h0, h1, h2, h3, ?_⟩
    walk_at "r"
    refine ⟨rows, sv, t, p, rfl, h0, h1, h2, h3, ?_⟩
    walk_at "w"
    rw [decide_eq_true rfl]
    walk_at "r"
    refine ⟨rows, turned, sv, t, p, rfl, h0, h1, h2, h3, ?_⟩
    rw [decide_eq_true (⟨hpl, by rw [prodS_perm hp]⟩ : rows.length = turned.length ∧ prodS sv t rows % p = prodS sv t turned % p)]
    walk_at "r"
    refine dec2 (fun hh => ?_) (fun hh => ?_)
    · walk_at "r"
      refine ⟨other, sv, t, p, rfl, h0, h1, h2, h3, ?_⟩
      walk_at "r"
      refine ⟨rows, sv, t, p, rfl, h0, h1, h2, h3, ?_⟩
      simp only [List.length_map] at hh
      have vb : decide (rows.length = other.length ∧ prodS sv t rows % p = prodS sv t other % p) = decide (prodS sv t other % p = prodS sv t rows % p) := by
        congr 1
        rw [eq_iff_iff]
        exact ⟨fun q => q.2.symm, fun q => ⟨by omega, q.symm⟩⟩
      walk_at "r"
      refine ⟨rows, other, sv, t, p, rfl, h0, h1, h2, h3, ?_⟩
      rw [vb]
      first
      | (walk_at "r"; rw [decide_eq_true rfl]; walk_at "r"; refine ⟨_, turned.map eI, rfl, rfl, pls_eI _, alike_rows _, sortable_rows _, depth_rows _, ?_⟩)
      | (walk_at "r"; refine ⟨_, turned.map eI, rfl, rfl, pls_eI _, alike_rows _, sortable_rows _, depth_rows _, ?_⟩)
      rw [sort_eII]
      walk_at "r"
      refine ⟨_, other.map eI, rfl, rfl, pls_eI _, alike_rows _, sortable_rows _, depth_rows _, ?_⟩
      rw [sort_eII]
      walk_at "s"
      walk_at "s"
      refine outs_loop h0 h1 h2 h3 [turned, turned.mergeSort leRow, other, other.mergeSort leRow] _ _ _ (fun o ho => ?_) fun k12 k13 k14 => ?_
      · simp only [List.mem_cons, List.not_mem_nil, or_false] at ho
        rcases ho with rfl | rfl | rfl | rfl <;> first | (rw [List.length_mergeSort]; omega) | omega
      walk_at "r"
      refine ⟨s, c, rows, sv, t, p, rfl, hd', hrows, h0, h1, h2, h3, fun m2 hd2 => ?_⟩
      walk_at "r"
      refine ⟨pl_eII rows, N.show_, N.dict, dp, N.shown_le dp (by decide), ?_⟩
      walk_at "r"
      refine ndec2 (fun hne => absurd rfl hne) (fun _ => ?_)
      walk_at "r"
      exact law_loop hE xs m2 _ _ _ _ _ _ _ _ _ _ _ _ _ _ (hd2.trans hd')
    · simp only [List.length_map] at hh
      have vb : decide (rows.length = other.length ∧ prodS sv t rows % p = prodS sv t other % p) = false := decide_eq_false fun q => hh (by have := q.1; omega)
      walk_at "r"
      refine ⟨rows, other, sv, t, p, rfl, h0, h1, h2, h3, ?_⟩
      rw [vb]
      first
      | (walk_at "r"; rw [decide_eq_true rfl]; walk_at "r"; refine ⟨_, turned.map eI, rfl, rfl, pls_eI _, alike_rows _, sortable_rows _, depth_rows _, ?_⟩)
      | (walk_at "r"; refine ⟨_, turned.map eI, rfl, rfl, pls_eI _, alike_rows _, sortable_rows _, depth_rows _, ?_⟩)
      rw [sort_eII]
      walk_at "r"
      refine ⟨_, other.map eI, rfl, rfl, pls_eI _, alike_rows _, sortable_rows _, depth_rows _, ?_⟩
      rw [sort_eII]
      walk_at "s"
      walk_at "s"
      refine outs_loop h0 h1 h2 h3 [turned, turned.mergeSort leRow, other, other.mergeSort leRow] _ _ _ (fun o ho => ?_) fun k12 k13 k14 => ?_
      · simp only [List.mem_cons, List.not_mem_nil, or_false] at ho
        rcases ho with rfl | rfl | rfl | rfl <;> first | (rw [List.length_mergeSort]; omega) | omega
      walk_at "r"
      refine ⟨s, c, rows, sv, t, p, rfl, hd', hrows, h0, h1, h2, h3, fun m2 hd2 => ?_⟩
      walk_at "r"
      refine ⟨pl_eII rows, N.show_, N.dict, dp, N.shown_le dp (by decide), ?_⟩
      walk_at "r"
      refine ndec2 (fun hne => absurd rfl hne) (fun _ => ?_)
      walk_at "r"
      exact law_loop hE xs m2 _ _ _ _ _ _ _ _ _ _ _ _ _ _ (hd2.trans hd')
section
variable {P : Program} {w : World} {K : PySem.W.Frag} {mg : Str → Option Value} {base : Heap}
theorem d_law (T : Txt K mg) : DefOk P w K mg base RD 5 "law" ["_law_script"] sp_law := by
  refine dv_law T (d__law_state T) (d__law_pick T) (d__law_rows T) (d__law_draw T) (d__law_turned T) (d__law_changed T) ((d_mark T).lift RD) (d__law_mark T) ((d_product T).lift RD) (d__law_product T) ((d_same_bag T).lift RD) (d__law_ascends T) ((d_in_order T).lift RD) ((d_sorted_claim T).lift RD) (d__law_among_right T) fun ds m Q Z hl h => ?_
  obtain ⟨ns, rfl, rfl, hn, hq⟩ := h
  walk_at "r"
  refine ⟨ns, rfl, hn, rfl, fun s c m hd => ?_⟩
  walk_at "r"
  have hc : (cutD (ns.map D.int) none (some 8)).length ≤ 63 := by
    have h1 : (cutD (ns.map D.int) none (some 8)).length ≤ (ns.map D.int).length := by
      unfold cutD
      rw [List.length_take, List.length_drop]
      omega
    rw [List.length_map] at h1
    omega
  refine ⟨size1000 (by show 1 + _ ≤ 1000; omega), ?_⟩
  refine law_loop (fun ρ m' j2 j3 j4 j5 j6 j7 j8 j9 j10 j11 j12 j13 j14 j15 e => ?_) _ m _ _ _ _ _ _ _ _ _ _ _ _ _ _ hd
  subst e
  walk_at "r"
  exact hq m'
end
end G76


open PySem PySem.W PyProof.Rows in
set_option maxRecDepth 100000 in
set_option maxHeartbeats 0 in
theorem PySem.Challenge.cw_layerask_k76_rows_in_any_order_holds : PySem.Challenge.rw_layerask_k76_rows_in_any_order.Holds := by
  w_on; o_law; k_head; (case hw => w_witness2)
  k_fill
  refine DL.law_walk (l := PySem.Challenge.rw_layerask_k76_rows_in_any_order) (k := 5) (x := "_law_script") rfl rfl ⟨rfl, by decide, by decide⟩ (fun w h Y => PySem.W.kIn_of Y) ?F
  case F =>
    intro w mg h KX G base _ _
    refine G76.d_law ?T
    refine' ⟨DL.top_mk KX G ?a0 ?l0 ?c0 ?k0, DL.top_mk KX G ?a1 ?l1 ?c1 ?k1, DL.top_mk KX G ?a2 ?l2 ?c2 ?k2, DL.top_mk KX G ?a3 ?l3 ?c3 ?k3, DL.top_mk KX G ?a4 ?l4 ?c4 ?k4, DL.top_mk KX G ?a5 ?l5 ?c5 ?k5, DL.top_mk KX G ?a6 ?l6 ?c6 ?k6, DL.top_mk KX G ?a7 ?l7 ?c7 ?k7, DL.top_mk KX G ?a8 ?l8 ?c8 ?k8, DL.top_mk KX G ?a9 ?l9 ?c9 ?k9, DL.top_mk KX G ?a10 ?l10 ?c10 ?k10, DL.top_mk KX G ?a11 ?l11 ?c11 ?k11, DL.top_mk KX G ?a12 ?l12 ?c12 ?k12, DL.top_mk KX G ?a13 ?l13 ?c13 ?k13, DL.top_mk KX G ?a14 ?l14 ?c14 ?k14, DL.top_mk KX G ?a15 ?l15 ?c15 ?k15, DL.top_mk KX G ?a16 ?l16 ?c16 ?k16, DL.top_mk KX G ?a17 ?l17 ?c17 ?k17, DL.top_mk KX G ?a18 ?l18 ?c18 ?k18, PySem.W.mg_none_of KX G ?z0, PySem.W.mg_none_of KX G ?z1, PySem.W.mg_none_of KX G ?z2, PySem.W.mg_none_of KX G ?z3, PySem.W.mg_none_of KX G ?z4, PySem.W.mg_none_of KX G ?z5, PySem.W.mg_none_of KX G ?z6, PySem.W.mg_none_of KX G ?z7, PySem.W.mg_none_of KX G ?z8, PySem.W.mg_none_of KX G ?z9, PySem.W.mg_none_of KX G ?z10, PySem.W.mg_none_of KX G ?z11, PySem.W.mg_none_of KX G ?z12⟩
    (case a0 => k_is)
    (case l0 => k_is)
    (case c0 => k_is)
    (case k0 => k_is)
    (case a1 => k_is)
    (case l1 => k_is)
    (case c1 => k_is)
    (case k1 => k_is)
    (case a2 => k_is)
    (case l2 => k_is)
    (case c2 => k_is)
    (case k2 => k_is)
    (case a3 => k_is)
    (case l3 => k_is)
    (case c3 => k_is)
    (case k3 => k_is)
    (case a4 => k_is)
    (case l4 => k_is)
    (case c4 => k_is)
    (case k4 => k_is)
    (case a5 => k_is)
    (case l5 => k_is)
    (case c5 => k_is)
    (case k5 => k_is)
    (case a6 => k_is)
    (case l6 => k_is)
    (case c6 => k_is)
    (case k6 => k_is)
    (case a7 => k_is)
    (case l7 => k_is)
    (case c7 => k_is)
    (case k7 => k_is)
    (case a8 => k_is)
    (case l8 => k_is)
    (case c8 => k_is)
    (case k8 => k_is)
    (case a9 => k_is)
    (case l9 => k_is)
    (case c9 => k_is)
    (case k9 => k_is)
    (case a10 => k_is)
    (case l10 => k_is)
    (case c10 => k_is)
    (case k10 => k_is)
    (case a11 => k_is)
    (case l11 => k_is)
    (case c11 => k_is)
    (case k11 => k_is)
    (case a12 => k_is)
    (case l12 => k_is)
    (case c12 => k_is)
    (case k12 => k_is)
    (case a13 => k_is)
    (case l13 => k_is)
    (case c13 => k_is)
    (case k13 => k_is)
    (case a14 => k_is)
    (case l14 => k_is)
    (case c14 => k_is)
    (case k14 => k_is)
    (case a15 => k_is)
    (case l15 => k_is)
    (case c15 => k_is)
    (case k15 => k_is)
    (case a16 => k_is)
    (case l16 => k_is)
    (case c16 => k_is)
    (case k16 => k_is)
    (case a17 => k_is)
    (case l17 => k_is)
    (case c17 => k_is)
    (case k17 => k_is)
    (case a18 => k_is)
    (case l18 => k_is)
    (case c18 => k_is)
    (case k18 => k_is)
    (case z0 => k_is)
    (case z1 => k_is)
    (case z2 => k_is)
    (case z3 => k_is)
    (case z4 => k_is)
    (case z5 => k_is)
    (case z6 => k_is)
    (case z7 => k_is)
    (case z8 => k_is)
    (case z9 => k_is)
    (case z10 => k_is)
    (case z11 => k_is)
    (case z12 => k_is)
