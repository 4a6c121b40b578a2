import PyProof.Rows.All
import Wide.All
import OpenK.AllK
import Wide.FinOn
import HandS.ForMost
import HandS.ForExc
import HandS.WideBits
import HandS.Style
import HandS.TupAny
import HandS.Deep
import HandS.WideMore
import HandS.IsInst
import HandS.Wide
import KE.SortData
import KE.DataCmp
import PyProof.ReprLen
import PySem.Challenge.RW_layerask_k77_whole_counts_of_bags
set_option Elab.async false
set_option linter.all false
set_option maxRecDepth 100000
set_option maxHeartbeats 4000000
/-! Data layer: a def's frame as plain data over the hand layer. -/
namespace DL
open PySem L2

/-- plain data; raw: a bare value (a class, an instance) -/
inductive D where
  | non | bl (b : Bool) | int (i : Int) | str (x : Str) | lst (xs : List D) | tup (xs : List D) | raw (v : V)
  /-- a name's own list, by the name's slot (never within other data) -/
  | slot (i : Nat)

mutual
/-- v is the data d, in the part F of the heap that never changes -/
inductive Dr (K : PySem.W.Frag) (F : Hp) : V → D → Prop
  | non : Dr K F .non .non
  | bl (b : Bool) : Dr K F (.bl b) (.bl b)
  | int (i : Int) : Dr K F (.int i) (.int i)
  | str (x : Str) : Dr K F (.str x) (.str x)
  | lst {a : Addr} {xs : List V} {ds : List D} : SqL K F a xs → DrAll K F xs ds → Dr K F (.ref a) (.lst ds)
  | tup {a : Addr} {xs : List V} {ds : List D} : SqT K F a xs → DrAll K F xs ds → Dr K F (.ref a) (.tup ds)
  | raw (v : V) : Dr K F v (.raw v)
inductive DrAll (K : PySem.W.Frag) (F : Hp) : List V → List D → Prop
  | nil : DrAll K F [] []
  | cons {v : V} {vs : List V} {d : D} {ds : List D} : Dr K F v d → DrAll K F vs ds → DrAll K F (v :: vs) (d :: ds)
end

theorem Same.sqT {K : PySem.W.Frag} {H H' : Hp} {a : Addr} {xs : List V} (e : Same H H') (h : SqT K H a xs) : SqT K H' a xs := by
  rcases h with (h | ⟨o, h⟩) | h
  · exact .inl (.inl (e _ _ h))
  · exact .inl (.inr ⟨o, e _ _ h⟩)
  · exact .inr h

section
variable {K : PySem.W.Frag} {F F' : Hp}
mutual
theorem Dr.mono (s : Same F F') : ∀ (d : D) (v : V), Dr K F v d → Dr K F' v d
  | .non, _, h => by cases h; exact .non
  | .bl b, _, h => by cases h; exact .bl b
  | .int i, _, h => by cases h; exact .int i
  | .str x, _, h => by cases h; exact .str x
  | .lst ds, _, h => by
    cases h with
    | lst q a => exact .lst (s.seq q) (DrAll.mono s ds _ a)
  | .tup ds, _, h => by
    cases h with
    | tup q a => exact .tup (Same.sqT s q) (DrAll.mono s ds _ a)
  | .raw v, _, h => by cases h; exact .raw v
  | .slot _, _, h => by cases h
theorem DrAll.mono (s : Same F F') : ∀ (ds : List D) (vs : List V), DrAll K F vs ds → DrAll K F' vs ds
  | [], _, h => by cases h; exact .nil
  | d :: ds, _, h => by
    cases h with
    | cons h1 h2 => exact .cons (Dr.mono s d _ h1) (DrAll.mono s ds _ h2)
end
theorem Dr.up {v : V} {d : D} (h : Dr K F v d) (s : Same F F') : Dr K F' v d := Dr.mono s d v h
theorem DrAll.up {vs : List V} {ds : List D} (h : DrAll K F vs ds) (s : Same F F') : DrAll K F' vs ds := DrAll.mono s ds vs h
theorem DrAll.length : ∀ {vs : List V} {ds : List D}, DrAll K F vs ds → vs.length = ds.length
  | _, _, .nil => rfl
  | _, _, .cons _ t => by rw [List.length_cons, List.length_cons, DrAll.length t]
theorem DrAll.get : ∀ {vs : List V} {ds : List D} {i : Nat} {d : D}, DrAll K F vs ds → ds[i]? = some d → ∃ v, vs[i]? = some v ∧ Dr K F v d
  | _, _, _, _, .nil, e => by simp at e
  | _, _, 0, _, .cons r _, e => by simp at e; subst e; exact ⟨_, rfl, r⟩
  | _, _, i + 1, d, .cons _ t, e => by
    obtain ⟨u, h1, h2⟩ := DrAll.get (i := i) (d := d) t (by simpa using e)
    exact ⟨u, by simpa using h1, h2⟩
theorem DrAll.getV : ∀ {vs : List V} {ds : List D} {i : Nat} {v : V}, DrAll K F vs ds → vs[i]? = some v → ∃ d, ds[i]? = some d ∧ Dr K F v d
  | _, _, _, _, .nil, e => by simp at e
  | _, _, 0, _, .cons r _, e => by simp at e; subst e; exact ⟨_, rfl, r⟩
  | _, _, i + 1, d, .cons _ t, e => by
    obtain ⟨u, h1, h2⟩ := DrAll.getV (i := i) (v := d) t (by simpa using e)
    exact ⟨u, by simpa using h1, h2⟩
theorem DrAll.append : ∀ {vs us : List V} {ds es : List D}, DrAll K F vs ds → DrAll K F us es → DrAll K F (vs ++ us) (ds ++ es)
  | _, _, _, _, .nil, s => s
  | _, _, _, _, .cons r t, s => .cons r (DrAll.append t s)
theorem DrAll.take : ∀ {vs : List V} {ds : List D} (n : Nat), DrAll K F vs ds → DrAll K F (vs.take n) (ds.take n)
  | _, _, 0, _ => .nil
  | _, _, _ + 1, .nil => .nil
  | _, _, n + 1, .cons r t => .cons r (DrAll.take n t)
theorem DrAll.drop : ∀ {vs : List V} {ds : List D} (n : Nat), DrAll K F vs ds → DrAll K F (vs.drop n) (ds.drop n)
  | _, _, 0, r => r
  | _, _, _ + 1, .nil => .nil
  | _, _, n + 1, .cons _ t => DrAll.drop n t
theorem DrAll.set {v : V} {d : D} (r : Dr K F v d) : ∀ {vs : List V} {ds : List D} (i : Nat), DrAll K F vs ds → DrAll K F (vs.set i v) (ds.set i d)
  | _, _, _, .nil => .nil
  | _, _, 0, .cons _ t => .cons r t
  | _, _, i + 1, .cons q t => .cons q (DrAll.set r i t)
theorem DrAll.reverse : ∀ {vs : List V} {ds : List D}, DrAll K F vs ds → DrAll K F vs.reverse ds.reverse
  | _, _, .nil => .nil
  | _, _, .cons r t => by
    rw [List.reverse_cons, List.reverse_cons]
    exact DrAll.append (DrAll.reverse t) (.cons r .nil)
theorem DrAll.ints : ∀ (ns : List Int), DrAll K F (ns.map V.int) (ns.map D.int)
  | [] => .nil
  | n :: ns => .cons (.int n) (DrAll.ints ns)
theorem DrAll.ints_of : ∀ {vs : List V} {ns : List Int}, DrAll K F vs (ns.map D.int) → vs = ns.map V.int
  | [], [], _ => rfl
  | _ :: _, [], h => by cases h
  | [], _ :: _, h => by cases h
  | _ :: _, n :: ns, h => by
    cases h with
    | cons h1 h2 =>
      cases h1
      rw [DrAll.ints_of h2]
      rfl
end

/-- what a name of a frame holds: nothing known; data; a list that it holds alone -/
inductive En where
  | un
  | dat (d : D)
  | own (xs : List D)

/-- a resource: what may change beside the frame's own lists -/
structure Rs where
  M : Type
  vol : M → Addr → Prop
  ok : PySem.W.Frag → Hp → M → Hp → Prop
  live : ∀ {K F m H a}, ok K F m H → vol m a → ∃ o, H a = some o
  ext : ∀ {K F F' m H H'}, ok K F m H → Same F F' → (∀ a o, vol m a → H a = some o → H' a = some o) → ok K F' m H'
  /-- the lists of the resource -/
  view : M → Addr → Option (List D)
  see : ∀ {K F m H a ds}, ok K F m H → view m a = some ds → ∃ vs, H a = some (.lst vs) ∧ DrAll K F vs ds
/-- none -/
def R0 : Rs := ⟨Unit, fun _ _ => False, fun _ _ _ _ => True, fun _ h => h.elim, fun _ _ _ => trivial, fun _ _ => none, fun _ h => nomatch h⟩

/-- the entry -/
structure Z0 (R : Rs) where
  F : Hp
  H : Hp
  m : R.M

structure Hs (K : PySem.W.Frag) (R : Rs) (z : Z0 R) (m : R.M) (H F : Hp) : Prop where
  sub : Same F H
  res : R.ok K F m H
  vF : ∀ a, R.vol m a → F a = none
  fr : ∀ a o, z.H a = some o → ¬ R.vol z.m a → H a = some o ∧ F a = z.F a
  vz : ∀ a, R.vol m a → R.vol z.m a ∨ z.H a = none
  zH : ∀ a o, z.H a = some o → ∃ o', H a = some o'
  fz : Same z.F F

def EnOk (K : PySem.W.Frag) (z H F : Hp) (v : Option V) : En → Prop
  | .un => True
  | .dat d => ∃ x, v = some x ∧ Dr K F x d
  | .own ds => ∃ a xs, v = some (.ref a) ∧ H a = some (.lst xs) ∧ F a = none ∧ z a = none ∧ DrAll K F xs ds

structure Rel (K : PySem.W.Frag) (R : Rs) (z : Z0 R) (ρ : List En) (m : R.M) (σ : St) (H F : Hp) : Prop extends Hs K R z m H F where
  len : σ.length = ρ.length
  var : ∀ (i : Nat) (e : En), ρ[i]? = some e → ∃ v, σ[i]? = some v ∧ EnOk K z.H H F v e
  apart : ∀ (i j : Nat) (a : Addr) (xs ys : List D), ρ[i]? = some (.own xs) → ρ[j]? = some (.own ys) → σ[i]? = some (some (.ref a)) → σ[j]? = some (some (.ref a)) → i = j
  vO : ∀ (a : Addr) (i : Nat) (xs : List D), R.vol m a → ρ[i]? = some (.own xs) → σ[i]? ≠ some (some (.ref a))

theorem EnOk.up {K : PySem.W.Frag} {z H H' F F' : Hp} {v : Option V} {e : En} (h : EnOk K z H F v e) (s : Same F F')
    (k : ∀ a xs, v = some (.ref a) → (∃ ys, e = .own ys) → H a = some (.lst xs) → F a = none → z a = none → H' a = some (.lst xs) ∧ F' a = none) : EnOk K z H' F' v e := by
  cases e with
  | un => trivial
  | dat d => obtain ⟨x, h1, h2⟩ := h; exact ⟨x, h1, h2.up s⟩
  | own ds =>
    obtain ⟨a, xs, h1, h2, h3, h4, h5⟩ := h
    obtain ⟨q1, q2⟩ := k a xs h1 ⟨_, rfl⟩ h2 h3 h4
    exact ⟨a, xs, h1, q1, q2, h4, h5.up s⟩

/-- a list that no name, no frozen data holds -/
structure Loose (K : PySem.W.Frag) (R : Rs) (z : Z0 R) (ρ : List En) (m : R.M) (σ : St) (H F : Hp) (a : Addr) : Prop where
  fF : F a = none
  zH : z.H a = none
  vol : ¬ R.vol m a
  own : ∀ (i : Nat) (xs : List D), ρ[i]? = some (.own xs) → σ[i]? ≠ some (some (.ref a))

section
variable {K : PySem.W.Frag} {R : Rs} {z : Z0 R} {ρ : List En} {m : R.M} {σ : St} {H F : Hp}
theorem Hs.newH (I : Hs K R z m H F) {p : Addr} (hp : H p = none) : F p = none ∧ z.H p = none ∧ ¬ R.vol m p := by
  refine ⟨I.sub.free hp, ?_, fun q => ?_⟩
  · cases q : z.H p with
    | none => rfl
    | some o =>
      obtain ⟨o', e⟩ := I.zH p o q
      rw [hp] at e
      cases e
  · obtain ⟨o, e⟩ := R.live I.res q
    rw [hp] at e
    cases e
theorem Rel.own_at (I : Rel K R z ρ m σ H F) {i : Nat} {ds : List D} (e : ρ[i]? = some (.own ds)) : ∃ a xs, σ[i]? = some (some (.ref a)) ∧ H a = some (.lst xs) ∧ F a = none ∧ z.H a = none ∧ DrAll K F xs ds := by
  obtain ⟨v, h1, a, xs, h2, h3⟩ := I.var i _ e
  subst h2
  exact ⟨a, xs, h1, h3⟩
theorem Rel.dat_at (I : Rel K R z ρ m σ H F) {i : Nat} {d : D} (e : ρ[i]? = some (.dat d)) : ∃ v, σ[i]? = some (some v) ∧ Dr K F v d := by
  obtain ⟨v, h1, x, h2, h3⟩ := I.var i _ e
  subst h2
  exact ⟨x, h1, h3⟩
/-- a new object beside all -/
theorem Rel.alloc (I : Rel K R z ρ m σ H F) {p : Addr} {o : HO} (hp : H p = none) : Rel K R z ρ m σ (upd H p o) F := by
  obtain ⟨pF, pz, pv⟩ := I.newH hp
  have k : ∀ a u, H a = some u → upd H p o a = some u := fun a u e => by rw [upd_ne (ne_of_none e hp)]; exact e
  refine ⟨⟨fun a u e => k a u (I.sub a u e), R.ext I.res (Same.refl F) fun a u _ e => k a u e, I.vF, fun a u e nv => ⟨k a u (I.fr a u e nv).1, (I.fr a u e nv).2⟩, I.vz, fun a u e => ?_, I.fz⟩, I.len, fun i e he => ?_, I.apart, I.vO⟩
  · obtain ⟨o', q⟩ := I.zH a u e
    exact ⟨o', k a o' q⟩
  · obtain ⟨v, h1, h2⟩ := I.var i e he
    exact ⟨v, h1, h2.up (Same.refl F) fun a xs _ _ e1 e2 _ => ⟨k a _ e1, e2⟩⟩
theorem Rel.loose_new (I : Rel K R z ρ m σ H F) {p : Addr} {o : HO} (hp : H p = none) : Loose K R z ρ m σ (upd H p o) F p := by
  obtain ⟨pF, pz, pv⟩ := I.newH hp
  refine ⟨pF, pz, pv, fun i xs e q => ?_⟩
  obtain ⟨a, ys, h1, h2, _⟩ := I.own_at e
  rw [q] at h1
  cases h1
  rw [hp] at h2
  cases h2
/-- what is loose is frozen -/
theorem Rel.freeze (I : Rel K R z ρ m σ H F) {a : Addr} {o : HO} (L : Loose K R z ρ m σ H F a) (hH : H a = some o) : Rel K R z ρ m σ H (upd F a o) ∧ Same F (upd F a o) := by
  have s : Same F (upd F a o) := fun b u e => by rw [upd_ne (ne_of_none e L.fF)]; exact e
  refine ⟨⟨⟨fun b u e => ?_, R.ext I.res s fun _ _ _ e => e, fun b hb => ?_, fun b u e nv => ?_, I.vz, I.zH, fun b u e => s b u (I.fz b u e)⟩, I.len, fun i e he => ?_, I.apart, I.vO⟩, s⟩
  · by_cases hb : b = a
    · subst hb; rw [upd_same] at e; cases e; exact hH
    · rw [upd_ne hb] at e; exact I.sub b u e
  · have ne : b ≠ a := fun q => L.vol (q ▸ hb)
    rw [upd_ne ne]; exact I.vF b hb
  · have ne : b ≠ a := ne_of_none e L.zH
    rw [upd_ne ne]; exact I.fr b u e nv
  · obtain ⟨v, h1, h2⟩ := I.var i e he
    refine ⟨v, h1, h2.up s fun b xs e0 ho e1 e2 _ => ⟨e1, ?_⟩⟩
    obtain ⟨ys, rfl⟩ := ho
    have ne : b ≠ a := fun q => L.own i ys he (by rw [h1, e0, q])
    rw [upd_ne ne]; exact e2
theorem Loose.mono {ρ' : List En} {m' : R.M} {σ' : St} {H' F' : Hp} {a : Addr} (L : Loose K R z ρ m σ H F a) (h1 : F' a = none) (h2 : ¬ R.vol m' a) (h3 : ∀ (i : Nat) (xs : List D), ρ'[i]? = some (.own xs) → σ'[i]? ≠ some (some (.ref a))) : Loose K R z ρ' m' σ' H' F' a :=
  ⟨h1, L.zH, h2, h3⟩
theorem lt_of_get {α : Type} {l : List α} {i : Nat} {x : α} (h : l[i]? = some x) : i < l.length := (List.getElem?_eq_some_iff.mp h).1
/-- a name is set to data -/
theorem Rel.setDat (I : Rel K R z ρ m σ H F) (i : Nat) {v : V} {d : D} (r : Dr K F v d) : Rel K R z (ρ.set i (.dat d)) m (σ.set i (some v)) H F := by
  have old : ∀ (j : Nat) (xs : List D), (ρ.set i (.dat d))[j]? = some (.own xs) → j ≠ i ∧ ρ[j]? = some (.own xs) := fun j xs e => by
    by_cases hj : j = i
    · subst hj
      by_cases hl : j < ρ.length
      · rw [List.getElem?_set_self hl] at e; cases e
      · rw [List.getElem?_eq_none (by simpa using hl)] at e; cases e
    · rw [List.getElem?_set_ne (Ne.symm hj)] at e
      exact ⟨hj, e⟩
  refine ⟨I.toHs, by simpa using I.len, fun j e he => ?_, fun j k a xs ys e1 e2 e3 e4 => ?_, fun a j xs hv e q => ?_⟩
  · by_cases hj : j = i
    · subst hj
      have hl : j < ρ.length := by simpa using lt_of_get he
      rw [List.getElem?_set_self hl] at he
      cases he
      exact ⟨_, List.getElem?_set_self (by rw [I.len]; exact hl), v, rfl, r⟩
    · rw [List.getElem?_set_ne (Ne.symm hj)] at he
      rw [List.getElem?_set_ne (Ne.symm hj)]
      exact I.var j e he
  · obtain ⟨n1, e1⟩ := old j xs e1
    obtain ⟨n2, e2⟩ := old k ys e2
    rw [List.getElem?_set_ne (Ne.symm n1)] at e3
    rw [List.getElem?_set_ne (Ne.symm n2)] at e4
    exact I.apart j k a xs ys e1 e2 e3 e4
  · obtain ⟨n1, e1⟩ := old j xs e
    rw [List.getElem?_set_ne (Ne.symm n1)] at q
    exact I.vO a j xs hv e1 q
/-- a name is set to a loose list -/
theorem Rel.setOwn (I : Rel K R z ρ m σ H F) (i : Nat) {a : Addr} {xs : List V} {ds : List D} (L : Loose K R z ρ m σ H F a) (hH : H a = some (.lst xs)) (r : DrAll K F xs ds) : Rel K R z (ρ.set i (.own ds)) m (σ.set i (some (.ref a))) H F := by
  have old : ∀ (j : Nat) (xs : List D), j ≠ i → (ρ.set i (.own ds))[j]? = some (.own xs) → ρ[j]? = some (.own xs) := fun j xs hj e => by
    rw [List.getElem?_set_ne (Ne.symm hj)] at e; exact e
  refine ⟨I.toHs, by simpa using I.len, fun j e he => ?_, fun j k b xs ys e1 e2 e3 e4 => ?_, fun b j xs hv e q => ?_⟩
  · by_cases hj : j = i
    · subst hj
      have hl : j < ρ.length := by simpa using lt_of_get he
      rw [List.getElem?_set_self hl] at he
      cases he
      exact ⟨_, List.getElem?_set_self (by rw [I.len]; exact hl), a, _, rfl, hH, L.fF, L.zH, r⟩
    · rw [List.getElem?_set_ne (Ne.symm hj)] at he
      rw [List.getElem?_set_ne (Ne.symm hj)]
      exact I.var j e he
  · have in_i : ∀ {j : Nat} {b : Addr}, j = i → (σ.set i (some (.ref a)))[j]? = some (some (.ref b)) → b = a := fun {j b} hj e => by
      subst hj
      have hl : j < σ.length := by simpa using lt_of_get e
      rw [List.getElem?_set_self hl] at e
      cases e; rfl
    by_cases hj : j = i
    · by_cases hk : k = i
      · rw [hj, hk]
      · have z1 := in_i hj e3
        subst z1
        rw [List.getElem?_set_ne (Ne.symm hk)] at e4
        exact absurd e4 (L.own k ys (old k ys hk e2))
    · by_cases hk : k = i
      · have z1 := in_i hk e4
        subst z1
        rw [List.getElem?_set_ne (Ne.symm hj)] at e3
        exact absurd e3 (L.own j xs (old j xs hj e1))
      · rw [List.getElem?_set_ne (Ne.symm hj)] at e3
        rw [List.getElem?_set_ne (Ne.symm hk)] at e4
        exact I.apart j k b xs ys (old j xs hj e1) (old k ys hk e2) e3 e4
  · by_cases hj : j = i
    · subst hj
      have hl : j < σ.length := by simpa using lt_of_get q
      rw [List.getElem?_set_self hl] at q
      cases q
      exact L.vol hv
    · rw [List.getElem?_set_ne (Ne.symm hj)] at q
      exact I.vO b j xs hv (old j xs hj e) q
/-- a name's entry is told anew over the same value -/
theorem Rel.retell (I : Rel K R z ρ m σ H F) (i : Nat) {e : En} (ne : ∀ xs, e ≠ .own xs) (h : ∀ v, σ[i]? = some v → EnOk K z.H H F v e) : Rel K R z (ρ.set i e) m σ H F := by
  have old : ∀ (j : Nat) (xs : List D), (ρ.set i e)[j]? = some (.own xs) → j ≠ i ∧ ρ[j]? = some (.own xs) := fun j xs q => by
    by_cases hj : j = i
    · subst hj
      by_cases hl : j < ρ.length
      · rw [List.getElem?_set_self hl] at q; cases q; exact absurd rfl (ne xs)
      · rw [List.getElem?_eq_none (by simpa using hl)] at q; cases q
    · rw [List.getElem?_set_ne (Ne.symm hj)] at q
      exact ⟨hj, q⟩
  refine ⟨I.toHs, by simpa using I.len, fun j u he => ?_, fun j k a xs ys e1 e2 e3 e4 => ?_, fun a j xs hv q1 q => ?_⟩
  · by_cases hj : j = i
    · subst hj
      have hl : j < ρ.length := by simpa using lt_of_get he
      rw [List.getElem?_set_self hl] at he
      cases he
      obtain ⟨v, hv⟩ : ∃ v, σ[j]? = some v := ⟨σ[j]'(by rw [I.len]; exact hl), List.getElem?_eq_getElem (by rw [I.len]; exact hl)⟩
      exact ⟨v, hv, h v hv⟩
    · rw [List.getElem?_set_ne (Ne.symm hj)] at he
      exact I.var j u he
  · exact I.apart j k a xs ys (old j xs e1).2 (old k ys e2).2 e3 e4
  · exact I.vO a j xs hv (old j xs q1).2 q
/-- a slot's value is lost -/
theorem Rel.drop (I : Rel K R z ρ m σ H F) (i : Nat) (v : Option V) : Rel K R z (ρ.set i .un) m (σ.set i v) H F := by
  have old : ∀ (j : Nat) (xs : List D), (ρ.set i En.un)[j]? = some (.own xs) → j ≠ i ∧ ρ[j]? = some (.own xs) := fun j xs q => by
    by_cases hj : j = i
    · subst hj
      by_cases hl : j < ρ.length
      · rw [List.getElem?_set_self hl] at q; cases q
      · rw [List.getElem?_eq_none (by simpa using hl)] at q; cases q
    · rw [List.getElem?_set_ne (Ne.symm hj)] at q
      exact ⟨hj, q⟩
  refine ⟨I.toHs, by simpa using I.len, fun j u he => ?_, fun j k a xs ys e1 e2 e3 e4 => ?_, fun a j xs hv q1 q => ?_⟩
  · by_cases hj : j = i
    · subst hj
      have hl : j < ρ.length := by simpa using lt_of_get he
      rw [List.getElem?_set_self hl] at he
      cases he
      exact ⟨_, List.getElem?_set_self (by rw [I.len]; exact hl), trivial⟩
    · rw [List.getElem?_set_ne (Ne.symm hj)] at he
      rw [List.getElem?_set_ne (Ne.symm hj)]
      exact I.var j u he
  · obtain ⟨n1, q1⟩ := old j xs e1
    obtain ⟨n2, q2⟩ := old k ys e2
    rw [List.getElem?_set_ne (Ne.symm n1)] at e3
    rw [List.getElem?_set_ne (Ne.symm n2)] at e4
    exact I.apart j k a xs ys q1 q2 e3 e4
  · obtain ⟨n1, q2⟩ := old j xs q1
    rw [List.getElem?_set_ne (Ne.symm n1)] at q
    exact I.vO a j xs hv q2 q
/-- the list of a name is changed -/
theorem Rel.change (I : Rel K R z ρ m σ H F) {i : Nat} {a : Addr} {ys : List V} {ds es : List D} (e : ρ[i]? = some (.own ds)) (hσ : σ[i]? = some (some (.ref a))) (r : DrAll K F ys es) : Rel K R z (ρ.set i (.own es)) m σ (upd H a (.lst ys)) F := by
  obtain ⟨a', xs, h1, h2, h3, h4, h5⟩ := I.own_at e
  rw [hσ] at h1
  cases h1
  have k : ∀ b u, b ≠ a → H b = some u → upd H a (.lst ys) b = some u := fun b u ne q => by rw [upd_ne ne]; exact q
  have nF : ∀ b u, F b = some u → b ≠ a := fun b u q => ne_of_none q h3
  have nz : ∀ b u, z.H b = some u → b ≠ a := fun b u q => ne_of_none q h4
  have old : ∀ (j : Nat) (xs : List D), j ≠ i → (ρ.set i (.own es))[j]? = some (.own xs) → ρ[j]? = some (.own xs) := fun j xs hj q => by
    rw [List.getElem?_set_ne (Ne.symm hj)] at q; exact q
  have any : ∀ (j : Nat) (xs : List D), (ρ.set i (.own es))[j]? = some (.own xs) → ∃ zs, ρ[j]? = some (.own zs) := fun j xs q => by
    by_cases hj : j = i
    · exact ⟨ds, hj ▸ e⟩
    · exact ⟨xs, old j xs hj q⟩
  refine ⟨⟨fun b u q => k b u (nF b u q) (I.sub b u q), R.ext I.res (Same.refl F) fun b u hv q => k b u (fun q2 => I.vO b i ds hv e (by rw [hσ, q2])) q, I.vF, fun b u q nv => ⟨k b u (nz b u q) (I.fr b u q nv).1, (I.fr b u q nv).2⟩, I.vz, fun b u q => ?_, I.fz⟩, by simpa using I.len, fun j u he => ?_, fun j k b xs ys e1 e2 e3 e4 => ?_, fun b j xs hv q1 q => ?_⟩
  · obtain ⟨o', q'⟩ := I.zH b u q
    exact ⟨o', k b o' (nz b u q) q'⟩
  · by_cases hj : j = i
    · subst hj
      have hl : j < ρ.length := by simpa using lt_of_get he
      rw [List.getElem?_set_self hl] at he
      cases he
      exact ⟨_, hσ, a, ys, rfl, upd_same, h3, h4, r⟩
    · rw [List.getElem?_set_ne (Ne.symm hj)] at he
      obtain ⟨v, q1, q2⟩ := I.var j u he
      refine ⟨v, q1, q2.up (Same.refl F) fun b xs' e0 ho e1 e2 _ => ⟨k b _ (fun q => ?_) e1, e2⟩⟩
      obtain ⟨zs, rfl⟩ := ho
      exact hj (I.apart j i a zs ds he e (by rw [q1, e0, q]) hσ)
  · obtain ⟨_, q1⟩ := any j xs e1
    obtain ⟨_, q2⟩ := any k ys e2
    exact I.apart j k b _ _ q1 q2 e3 e4
  · obtain ⟨_, q2⟩ := any j xs q1
    exact I.vO b j _ hv q2 q
/-- a name's own list becomes data -/
theorem Rel.ice (I : Rel K R z ρ m σ H F) {i : Nat} {ds : List D} (e : ρ[i]? = some (.own ds)) : ∃ a xs, σ[i]? = some (some (.ref a)) ∧ F a = none ∧ Rel K R z (ρ.set i (.dat (.lst ds))) m σ H (upd F a (.lst xs)) ∧ Dr K (upd F a (.lst xs)) (.ref a) (.lst ds) := by
  obtain ⟨a, xs, h1, h2, h3, h4, h5⟩ := I.own_at e
  have hl := lt_of_get e
  have J : Rel K R z (ρ.set i .un) m σ H F := I.retell i (fun _ q => nomatch q) fun _ _ => trivial
  have L : Loose K R z (ρ.set i .un) m σ H F a := by
    refine ⟨h3, h4, fun hv => I.vO a i ds hv e h1, fun j ys q q2 => ?_⟩
    by_cases hj : j = i
    · subst hj
      rw [List.getElem?_set_self hl] at q; cases q
    · rw [List.getElem?_set_ne (Ne.symm hj)] at q
      exact hj (I.apart j i a ys ds q e q2 h1)
  obtain ⟨J2, s⟩ := J.freeze L h2
  have r : Dr K (upd F a (.lst xs)) (.ref a) (.lst ds) := .lst (SqL.of upd_same) (h5.up s)
  have J3 := J2.retell i (e := .dat (.lst ds)) (fun _ q => nomatch q) fun v hv => by
    rw [h1] at hv
    cases hv
    exact ⟨_, rfl, r⟩
  rw [List.set_set] at J3
  exact ⟨a, xs, h1, h3, J3, r⟩
end
/-- a is held by no name, is no part of the resource -/
def Aside (R : Rs) (ρ : List En) (m : R.M) (σ : L2.St) (a : Addr) : Prop := ¬ R.vol m a ∧ ∀ (i : Nat) (xs : List D), ρ[i]? = some (.own xs) → σ[i]? ≠ some (some (.ref a))
/-- from one state to a later one: frozen data stays, what is aside stays -/
structure Mv (R : Rs) (ρ : List En) (m : R.M) (σ : L2.St) (H F : Hp) (ρ' : List En) (m' : R.M) (σ' : L2.St) (H' F' : Hp) : Prop where
  same : Same F F'
  live : ∀ a o, H a = some o → ∃ o', H' a = some o'
  kp : ∀ a o, H a = some o → Aside R ρ m σ a → H' a = some o ∧ F' a = F a ∧ Aside R ρ' m' σ' a
section
variable {K : PySem.W.Frag} {R : Rs} {z : Z0 R} {ρ ρ1 ρ2 : List En} {m m1 m2 : R.M} {σ σ1 σ2 : L2.St} {H F H1 F1 H2 F2 : Hp}
theorem Mv.refl : Mv R ρ m σ H F ρ m σ H F := ⟨Same.refl F, fun _ o e => ⟨o, e⟩, fun _ _ e n => ⟨e, rfl, n⟩⟩
theorem Mv.trans (a : Mv R ρ m σ H F ρ1 m1 σ1 H1 F1) (b : Mv R ρ1 m1 σ1 H1 F1 ρ2 m2 σ2 H2 F2) : Mv R ρ m σ H F ρ2 m2 σ2 H2 F2 :=
  ⟨a.same.trans b.same, fun c o e => by obtain ⟨o', e'⟩ := a.live c o e; exact b.live c o' e', fun c o e n => by
    obtain ⟨e1, f1, n1⟩ := a.kp c o e n
    obtain ⟨e2, f2, n2⟩ := b.kp c o e1 n1
    exact ⟨e2, f2.trans f1, n2⟩⟩
theorem Mv.free (a : Mv R ρ m σ H F ρ1 m1 σ1 H1 F1) {p : Addr} (h : H1 p = none) : H p = none := by
  cases e : H p with
  | none => rfl
  | some o =>
    obtain ⟨o', e'⟩ := a.live p o e
    rw [h] at e'
    cases e'
theorem Mv.alloc {p : Addr} {o : HO} (hp : H p = none) : Mv R ρ m σ H F ρ m σ (upd H p o) F :=
  ⟨Same.refl F, fun a u e => ⟨u, by rw [upd_ne (ne_of_none e hp)]; exact e⟩, fun a u e n => ⟨by rw [upd_ne (ne_of_none e hp)]; exact e, rfl, n⟩⟩
/-- what was made since H is frozen -/
theorem Mv.freeze (a : Mv R ρ m σ H F ρ1 m1 σ1 H1 F1) {p : Addr} {o : HO} (hp : H p = none) (hf : F1 p = none) : Mv R ρ m σ H F ρ1 m1 σ1 H1 (upd F1 p o) :=
  ⟨a.same.trans fun b u e => by rw [upd_ne (ne_of_none e hf)]; exact e, a.live, fun b u e n => by
    obtain ⟨e1, f1, n1⟩ := a.kp b u e n
    exact ⟨e1, by rw [upd_ne (ne_of_none e hp)]; exact f1, n1⟩⟩
theorem Aside.sub {ρ' : List En} {σ' : L2.St} {a : Addr} (n : Aside R ρ m σ a) (h : ∀ (i : Nat) (xs : List D), ρ'[i]? = some (.own xs) → σ'[i]? = some (some (.ref a)) → ∃ ys, ρ[i]? = some (.own ys) ∧ σ[i]? = some (some (.ref a))) : Aside R ρ' m σ' a :=
  ⟨n.1, fun i xs e q => by
    obtain ⟨ys, e', q'⟩ := h i xs e q
    exact n.2 i ys e' q'⟩
theorem set_own_old {i : Nat} {e : En} (ne : ∀ xs, e ≠ .own xs) {j : Nat} {xs : List D} (h : (ρ.set i e)[j]? = some (.own xs)) : j ≠ i ∧ ρ[j]? = some (.own xs) := by
  by_cases hj : j = i
  · subst hj
    by_cases hl : j < ρ.length
    · rw [List.getElem?_set_self hl] at h; cases h; exact absurd rfl (ne xs)
    · rw [List.getElem?_eq_none (by simpa using hl)] at h; cases h
  · rw [List.getElem?_set_ne (Ne.symm hj)] at h
    exact ⟨hj, h⟩
theorem Mv.setDat (i : Nat) (v : V) (d : D) : Mv R ρ m σ H F (ρ.set i (.dat d)) m (σ.set i (some v)) H F :=
  ⟨Same.refl F, fun _ o e => ⟨o, e⟩, fun a o e n => ⟨e, rfl, n.sub fun j xs e1 q1 => by
    obtain ⟨nj, e2⟩ := set_own_old (e := .dat d) (fun _ q => nomatch q) e1
    rw [List.getElem?_set_ne (Ne.symm nj)] at q1
    exact ⟨xs, e2, q1⟩⟩⟩
theorem Mv.change {i : Nat} {a : Addr} {ys : List V} {ds es : List D} (e : ρ[i]? = some (.own ds)) (hσ : σ[i]? = some (some (.ref a))) : Mv R ρ m σ H F (ρ.set i (.own es)) m σ (upd H a (.lst ys)) F :=
  ⟨Same.refl F, fun b o q => by
    by_cases hb : b = a
    · exact ⟨_, by rw [hb]; exact upd_same⟩
    · exact ⟨o, by rw [upd_ne hb]; exact q⟩, fun b o q n => ⟨by rw [upd_ne (fun hb => n.2 i ds e (by rw [hσ, hb]))]; exact q, rfl, n.sub fun j xs e1 q1 => by
    by_cases hj : j = i
    · exact ⟨ds, hj ▸ e, q1⟩
    · rw [List.getElem?_set_ne (Ne.symm hj)] at e1
      exact ⟨xs, e1, q1⟩⟩⟩
end
end DL

/-! Data layer: judgements, control flow. -/
namespace DL
open PySem L2

/-- an exception: its class, its fields -/
structure Xd where
  cls : Value
  fs : List (Str × D)
def XdOk (K : PySem.W.Frag) (F H : Hp) (x : Xd) (cls : Value) (d : Option Addr) : Prop :=
  cls = x.cls ∧ ∀ f v, (f, v) ∈ x.fs → ∃ a fvs u, d = some a ∧ H a = some (.xd fvs) ∧ fvs.lookup f = some u ∧ Dr K F u v

abbrev ZC (R : Rs) := Xd → List En → R.M → Prop
/-- what is wanted of an expression's data, names and resource -/
abbrev KD (R : Rs) := D → List En → R.M → Prop
abbrev KL (R : Rs) := List D → List En → R.M → Prop
abbrev KB (R : Rs) := Bool → List En → R.M → Prop
abbrev TD (R : Rs) := ZC R → List En → R.M → KD R → Prop
abbrev TL (R : Rs) := ZC R → List En → R.M → KL R → Prop
abbrev TB (R : Rs) := ZC R → List En → R.M → KB R → Prop
structure DEnds (R : Rs) where
  nx : List En → R.M → Prop
  rt : D → R.M → Prop
  bk : List En → R.M → Prop := fun _ _ => False
  ct : List En → R.M → Prop := fun _ _ => False
  rz : ZC R
abbrev TSd (R : Rs) := DEnds R → List En → R.M → Prop

def nth : List En → Nat → En
  | [], _ => .un
  | e :: _, 0 => e
  | _ :: r, n + 1 => nth r n
theorem nth_get : ∀ {ρ : List En} {i : Nat} {e : En}, nth ρ i = e → e ≠ .un → ρ[i]? = some e
  | [], i, e, h, n => absurd h.symm n
  | a :: r, 0, e, h, n => by simpa [nth] using h
  | a :: r, i + 1, e, h, n => by
    have := nth_get (ρ := r) (i := i) h n
    simpa using this

/-- a value is data, or the own list of a slot -/
def Dv (K : PySem.W.Frag) (σ : L2.St) (F : Hp) (v : V) : D → Prop
  | .slot i => σ[i]? = some (some v)
  | d => Dr K F v d
theorem Dr.dv {K : PySem.W.Frag} {σ : L2.St} {F : Hp} {v : V} {d : D} (h : Dr K F v d) : Dv K σ F v d := by
  cases d <;> first | exact h | (cases h)
/-- data that stands by itself -/
def D.firm : D → Prop
  | .slot _ => False
  | _ => True
theorem Dv.dr {K : PySem.W.Frag} {σ : L2.St} {F : Hp} {v : V} {d : D} (h : Dv K σ F v d) (f : d.firm) : Dr K F v d := by
  cases d <;> first | exact h | exact f.elim
theorem Dv.up {K : PySem.W.Frag} {σ : L2.St} {F F' : Hp} {v : V} {d : D} (h : Dv K σ F v d) (s : Same F F') : Dv K σ F' v d := by
  cases d <;> first | exact Dr.up h s | exact h
inductive DvAll (K : PySem.W.Frag) (σ : L2.St) (F : Hp) : List V → List D → Prop
  | nil : DvAll K σ F [] []
  | cons {v : V} {vs : List V} {d : D} {ds : List D} : Dv K σ F v d → DvAll K σ F vs ds → DvAll K σ F (v :: vs) (d :: ds)
def Firms : List D → Prop
  | [] => True
  | d :: ds => d.firm ∧ Firms ds
theorem DvAll.dr {K : PySem.W.Frag} {σ : L2.St} {F : Hp} : ∀ {vs : List V} {ds : List D}, DvAll K σ F vs ds → Firms ds → DrAll K F vs ds
  | _, _, .nil, _ => .nil
  | _, _, .cons r t, f => .cons (r.dr f.1) (DvAll.dr t f.2)
theorem DvAll.up {K : PySem.W.Frag} {σ : L2.St} {F F' : Hp} (s : Same F F') : ∀ {vs : List V} {ds : List D}, DvAll K σ F vs ds → DvAll K σ F' vs ds
  | _, _, .nil => .nil
  | _, _, .cons r t => .cons (r.up s) (DvAll.up s t)
/-- the items of a list, of a tuple -/
abbrev Vw := Addr → Option (List D)
def itemsL (w : Vw) (ρ : List En) : D → Option (List D)
  | .lst xs => some xs
  | .slot i => match nth ρ i with
    | .own xs => some xs
    | _ => none
  | .raw (.ref a) => w a
  | _ => none

def Zok (K : PySem.W.Frag) (R : Rs) (z : Z0 R) (W : WX) (Z : ZC R) : Prop :=
  ∀ x ρ m σ H F cls d, Rel K R z ρ m σ H F → XdOk K F H x cls d → Z x ρ m → W cls d σ H

section
variable (K : PySem.W.Frag) (W : WX) (R : Rs)
/-- the reading te is served by the data reading t -/
def SE (te : TE) (t : TD R) : Prop := ∀ (z : Z0 R) (Z : ZC R) (ρ : List En) (m : R.M) (σ : L2.St) (H F : Hp) (Q : KD R) (Qh : VK), Zok K R z W Z → Rel K R z ρ m σ H F → t Z ρ m Q →
  (∀ v H' F' ρ' m' d, Rel K R z ρ' m' σ H' F' → Mv R ρ m σ H F ρ' m' σ H' F' → Dv K σ F' v d → Q d ρ' m' → Qh v H') → te σ H Qh
def SA (ta : TA) (t : TL R) (n : Nat) : Prop := ∀ (z : Z0 R) (Z : ZC R) (ρ : List En) (m : R.M) (σ : L2.St) (H F : Hp) (Q : KL R) (Qh : List V → Hp → Prop), Zok K R z W Z → Rel K R z ρ m σ H F → t Z ρ m Q →
  (∀ vs H' F' ρ' m' ds, Rel K R z ρ' m' σ H' F' → Mv R ρ m σ H F ρ' m' σ H' F' → DvAll K σ F' vs ds → vs.length = n → Q ds ρ' m' → Qh vs H') → ta σ H Qh
def ST (tt : TT) (t : TB R) : Prop := ∀ (z : Z0 R) (Z : ZC R) (ρ : List En) (m : R.M) (σ : L2.St) (H F : Hp) (Q : KB R) (Qh : Bool → Hp → Prop), Zok K R z W Z → Rel K R z ρ m σ H F → t Z ρ m Q →
  (∀ b H' F' ρ' m', Rel K R z ρ' m' σ H' F' → Mv R ρ m σ H F ρ' m' σ H' F' → Q b ρ' m' → Qh b H') → tt σ H Qh
/-- a new list that is held by nobody -/
def SO (te : TE) (t : TL R) : Prop := ∀ (z : Z0 R) (Z : ZC R) (ρ : List En) (m : R.M) (σ : L2.St) (H F : Hp) (Q : KL R) (Qh : VK), Zok K R z W Z → Rel K R z ρ m σ H F → t Z ρ m Q →
  (∀ a xs ds H' F' ρ' m', Rel K R z ρ' m' σ H' F' → Mv R ρ m σ H F ρ' m' σ H' F' → H a = none → Loose K R z ρ' m' σ H' F' a → H' a = some (.lst xs) → DrAll K F' xs ds → Q ds ρ' m' → Qh (.ref a) H') → te σ H Qh
structure Mt (z : Z0 R) (G : Hp) (D : DEnds R) (Dh : Ends) : Prop where
  nx : ∀ ρ m σ H F, Rel K R z ρ m σ H F → Same G F → D.nx ρ m → Dh.nx σ H
  rt : ∀ d ρ m v σ H F, Rel K R z ρ m σ H F → Same G F → Dr K F v d → D.rt d m → Dh.rt v H
  bk : ∀ ρ m σ H F, Rel K R z ρ m σ H F → Same G F → D.bk ρ m → Dh.bk σ H
  ct : ∀ ρ m σ H F, Rel K R z ρ m σ H F → Same G F → D.ct ρ m → Dh.ct σ H
  rz : Zok K R z W D.rz
def SS (ts : TS) (t : TSd R) : Prop := ∀ (z : Z0 R) (ρ : List En) (m : R.M) (σ : L2.St) (H F : Hp) (D : DEnds R) (Dh : Ends), Mt K W R z F D Dh → Rel K R z ρ m σ H F → t D ρ m → ts Dh σ H
end
theorem Mt.up {K : PySem.W.Frag} {W : WX} {R : Rs} {z : Z0 R} {G G' : Hp} {D : DEnds R} {Dh : Ends} (M : Mt K W R z G D Dh) (s : Same G G') : Mt K W R z G' D Dh :=
  ⟨fun ρ m σ H F I e => M.nx ρ m σ H F I (s.trans e), fun d ρ m v σ H F I e => M.rt d ρ m v σ H F I (s.trans e), fun ρ m σ H F I e => M.bk ρ m σ H F I (s.trans e), fun ρ m σ H F I e => M.ct ρ m σ H F I (s.trans e), M.rz⟩
section
variable (X : Cx) (W : WX) (R : Rs)
structure DE (e : Expr) (t : TD R) : Prop where
  ex : ∃ te, PE X e te ∧ SE X.K W R te t
structure DO (e : Expr) (t : TL R) : Prop where
  ex : ∃ te, PE X e te ∧ SO X.K W R te t
structure DA (es : List Expr) (t : TL R) : Prop where
  ex : ∃ ta, PA X es ta ∧ SA X.K W R ta t es.length
structure DT (e : Expr) (t : TB R) : Prop where
  ex : ∃ tt, PT X e tt ∧ ST X.K W R tt t
structure DW (e : Expr) (t : TB R) : Prop where
  ex : ∃ tt, PW X e tt ∧ ST X.K W R tt t
structure DS (st : Stmt) (t : TSd R) : Prop where
  ex : ∃ ts, PS X st ts ∧ SS X.K W R ts t
structure DSs (sts : List Stmt) (t : TSd R) : Prop where
  ex : ∃ ts, PSs X sts ts ∧ SS X.K W R ts t
end

section
variable {X : Cx} {W : WX} {R : Rs} {e a b c : Expr} {es : List Expr} {st : Stmt} {sts : List Stmt} {pos : Pos} {te ta tb : TD R} {tl : TL R} {tc : TB R} {ts us : TSd R}
/-! ### names, constants, lists of arguments -/
def eVar (i : Nat) : TD R := fun _ ρ m Q => match nth ρ i with
  | .dat d => Q d ρ m
  | .own _ => Q (.slot i) ρ m
  | .un => False
/-- a name whose own list becomes data -/
def eIce (i : Nat) : TD R := fun _ ρ m Q => match nth ρ i with
  | .dat d => Q d ρ m
  | .own xs => Q (.lst xs) (ρ.set i (.dat (.lst xs))) m
  | .un => False
def eC (d : D) : TD R := fun _ ρ m Q => Q d ρ m
theorem de_var {i : Nat} (h : PE X e (tVar i)) : DE X W R e (eVar i) := by
  refine ⟨_, h, fun z Z ρ m σ H F Q Qh hz I h q => ?_⟩
  unfold eVar at h
  split at h
  · rename_i d e
    obtain ⟨v, h1, h2⟩ := I.dat_at (nth_get e (fun q => nomatch q))
    exact ⟨v, h1, q v H F ρ m d I Mv.refl h2.dv h⟩
  · rename_i xs e
    obtain ⟨a, ys, h1, _⟩ := I.own_at (nth_get e (fun q => nomatch q))
    exact ⟨.ref a, h1, q (.ref a) H F ρ m (.slot i) I Mv.refl h1 h⟩
  · exact h.elim
theorem de_ice {i : Nat} (h : PE X e (tVar i)) : DE X W R e (eIce i) := by
  refine ⟨_, h, fun z Z ρ m σ H F Q Qh hz I h q => ?_⟩
  unfold eIce at h
  split at h
  · rename_i d e
    obtain ⟨v, h1, h2⟩ := I.dat_at (nth_get e (fun q => nomatch q))
    exact ⟨v, h1, q v H F ρ m d I Mv.refl h2.dv h⟩
  · rename_i xs e
    have e' := nth_get e (fun q => nomatch q)
    obtain ⟨a, us, h1, h3, I', h2⟩ := I.ice e'
    refine ⟨.ref a, h1, q (.ref a) H _ _ m _ I' ⟨fun b u q => by rw [upd_ne (ne_of_none q h3)]; exact q, fun b o q => ⟨o, q⟩, fun b o q n => ⟨q, ?_, n.sub fun j ys e1 q1 => ?_⟩⟩ h2.dv h⟩
    · rw [upd_ne (fun hb => n.2 i xs e' (by rw [h1, hb]))]
    · obtain ⟨_, e2⟩ := set_own_old (e := .dat (.lst xs)) (fun _ q => nomatch q) e1
      exact ⟨ys, e2, q1⟩
  · exact h.elim
theorem se_c {v : V} {d : D} (r : ∀ F, Dr X.K F v d) : SE X.K W R (tC v) (eC d) := fun z Z ρ m σ H F Q Qh hz I h q => q v H F ρ m d I Mv.refl (r F).dv h
theorem de_int {i : Int} {j pos} : DE X W R (.Constant (.int i) j pos) (eC (.int i)) := ⟨_, pe_int, se_c fun _ => .int i⟩
theorem de_bl {i : Bool} {j pos} : DE X W R (.Constant (.bool i) j pos) (eC (.bl i)) := ⟨_, pe_bl, se_c fun _ => .bl i⟩
theorem de_non {j pos} : DE X W R (.Constant .none j pos) (eC .non) := ⟨_, pe_non, se_c fun _ => .non⟩
theorem de_str {x : Str} {j pos} : DE X W R (.Constant (.str x) j pos) (eC (.str x)) := ⟨_, pe_str, se_c fun _ => .str x⟩
/-- a class, a def, a built-in as a value -/
theorem de_raw {v : V} (h : PE X e (tC v)) : DE X W R e (eC (.raw v)) := ⟨_, h, se_c fun _ => .raw v⟩

def aNil : TL R := fun _ ρ m Q => Q [] ρ m
def aCons (t : TD R) (r : TL R) : TL R := fun Z ρ m Q => t Z ρ m fun x ρ1 m1 => r Z ρ1 m1 fun xs ρ2 m2 => Q (x :: xs) ρ2 m2
theorem da_nil : DA X W R [] aNil := ⟨_, pa_nil, fun z Z ρ m σ H F Q Qh hz I h q => q [] H F ρ m [] I Mv.refl .nil rfl h⟩
theorem da_cons (ha : DE X W R e te) (hr : DA X W R es tl) (hs : starEach (e :: es) X.env = (false, eval e X.env) :: starEach es X.env := by rfl) : DA X W R (e :: es) (aCons te tl) := by
  obtain ⟨t1, p1, s1⟩ := ha
  obtain ⟨t2, p2, s2⟩ := hr
  refine ⟨_, pa_cons p1 p2 hs, fun z Z ρ m σ H F Q Qh hz I h q => ?_⟩
  exact s1 z Z ρ m σ H F _ _ hz I h fun v H1 F1 ρ1 m1 d I1 f1 r1 h1 => s2 z Z ρ1 m1 σ H1 F1 _ _ hz I1 h1 fun vs H2 F2 ρ2 m2 ds I2 f2 r2 n2 h2 =>
    q (v :: vs) H2 F2 ρ2 m2 (d :: ds) I2 (f1.trans f2) (.cons (r1.up f2.same) r2) (by rw [List.length_cons, n2]; rfl) h2

/-! ### a new list that becomes data -/
def eFz (t : TL R) : TD R := fun Z ρ m Q => t Z ρ m fun xs ρ1 m1 => Q (.lst xs) ρ1 m1
theorem DO.fz (h : DO X W R e tl) : DE X W R e (eFz tl) := by
  obtain ⟨t1, p1, s1⟩ := h
  refine ⟨_, p1, fun z Z ρ m σ H F Q Qh hz I h q => ?_⟩
  refine s1 z Z ρ m σ H F _ _ hz I h fun a xs ds H' F' ρ' m' I' s hN L hH r hq => ?_
  obtain ⟨J, s2⟩ := I'.freeze L hH
  exact q (.ref a) H' _ ρ' m' (.lst ds) J (s.freeze hN L.fF) (Dr.dv (.lst (SqL.of upd_same) (r.up s2))) hq

/-! ### a test's answer as a value; and, or, not; if -/
def bOf (t : TD R) : TB R := fun Z ρ m Q => t Z ρ m fun x ρ1 m1 => match x with
  | .bl k => Q k ρ1 m1
  | _ => False
theorem dt_val (h : DE X W R e te) (he : ∀ whole, isTrue e X.env whole = (do let v ← whole; standAt e.pos; holding [v] (truthy v)) := by intro _; rfl) : DT X W R e (bOf te) := by
  obtain ⟨t1, p1, s1⟩ := h
  refine ⟨_, pt_val p1 he, fun z Z ρ m σ H F Q Qh hz I h q => ?_⟩
  refine s1 z Z ρ m σ H F _ _ hz I h fun v H' F' ρ' m' d I' s r hq => ?_
  cases d <;> first | exact hq.elim | skip
  rename_i k
  have r' := Dv.dr r trivial
  cases r'
  exact ⟨k, rfl, q k H' F' ρ' m' I' s hq⟩
def bAnd (t u : TB R) : TB R := fun Z ρ m Q => t Z ρ m fun c ρ1 m1 => (c = true → u Z ρ1 m1 Q) ∧ (c = false → Q false ρ1 m1)
def bOr (t u : TB R) : TB R := fun Z ρ m Q => t Z ρ m fun c ρ1 m1 => (c = true → Q true ρ1 m1) ∧ (c = false → u Z ρ1 m1 Q)
def bNot (t : TB R) : TB R := fun Z ρ m Q => t Z ρ m fun c ρ1 m1 => Q (!c) ρ1 m1
variable {t1 t2 : TB R} {rest : List Expr}
theorem DW.pt (h : DW X W R e tc) : DT X W R e tc := by
  obtain ⟨t1, p1, s1⟩ := h
  exact ⟨_, p1.pt, s1⟩
theorem dw_and1 (h : DT X W R a t1) : DW X W R (.BoolOp .And [a] pos) t1 := by
  obtain ⟨_, p1, s1⟩ := h
  exact ⟨_, pw_and1 p1, s1⟩
theorem dw_or1 (h : DT X W R a t1) : DW X W R (.BoolOp .Or [a] pos) t1 := by
  obtain ⟨_, p1, s1⟩ := h
  exact ⟨_, pw_or1 p1, s1⟩
theorem dw_and (ha : DT X W R a t1) (hb : DW X W R (.BoolOp .And (b :: rest) pos) t2) : DW X W R (.BoolOp .And (a :: b :: rest) pos) (bAnd t1 t2) := by
  obtain ⟨_, p1, s1⟩ := ha
  obtain ⟨_, p2, s2⟩ := hb
  refine ⟨_, pw_and p1 p2, fun z Z ρ m σ H F Q Qh hz I h q => ?_⟩
  refine s1 z Z ρ m σ H F _ _ hz I h fun c H1 F1 ρ1 m1 I1 f1 h1 => ?_
  cases c with
  | true => exact iteT (s2 z Z ρ1 m1 σ H1 F1 _ _ hz I1 (h1.1 rfl) fun c H2 F2 ρ2 m2 I2 f2 h2 => q c H2 F2 ρ2 m2 I2 (f1.trans f2) h2)
  | false => exact iteF (q false H1 F1 ρ1 m1 I1 f1 (h1.2 rfl))
theorem dw_or (ha : DT X W R a t1) (hb : DW X W R (.BoolOp .Or (b :: rest) pos) t2) : DW X W R (.BoolOp .Or (a :: b :: rest) pos) (bOr t1 t2) := by
  obtain ⟨_, p1, s1⟩ := ha
  obtain ⟨_, p2, s2⟩ := hb
  refine ⟨_, pw_or p1 p2, fun z Z ρ m σ H F Q Qh hz I h q => ?_⟩
  refine s1 z Z ρ m σ H F _ _ hz I h fun c H1 F1 ρ1 m1 I1 f1 h1 => ?_
  cases c with
  | true => exact iteT (q true H1 F1 ρ1 m1 I1 f1 (h1.1 rfl))
  | false => exact iteF (s2 z Z ρ1 m1 σ H1 F1 _ _ hz I1 (h1.2 rfl) fun c H2 F2 ρ2 m2 I2 f2 h2 => q c H2 F2 ρ2 m2 I2 (f1.trans f2) h2)
theorem dt_not (ha : DT X W R a t1) : DT X W R (.UnaryOp .Not a pos) (bNot t1) := by
  obtain ⟨_, p1, s1⟩ := ha
  refine ⟨_, pt_not p1, fun z Z ρ m σ H F Q Qh hz I h q => ?_⟩
  exact s1 z Z ρ m σ H F _ _ hz I h fun c H1 F1 ρ1 m1 I1 f1 h1 => q (!c) H1 F1 ρ1 m1 I1 f1 h1
/-- as values -/
def eAnd (t u : TD R) : TD R := fun Z ρ m Q => t Z ρ m fun x ρ1 m1 => match x with
  | .bl c => (c = true → u Z ρ1 m1 Q) ∧ (c = false → Q (.bl false) ρ1 m1)
  | _ => False
def eOr (t u : TD R) : TD R := fun Z ρ m Q => t Z ρ m fun x ρ1 m1 => match x with
  | .bl c => (c = true → Q (.bl true) ρ1 m1) ∧ (c = false → u Z ρ1 m1 Q)
  | _ => False
def eNot (t : TD R) : TD R := fun Z ρ m Q => t Z ρ m fun x ρ1 m1 => match x with
  | .bl c => Q (.bl (!c)) ρ1 m1
  | _ => False
theorem de_one {op} (h : DE X W R a te) : DE X W R (.BoolOp op [a] pos) te := by
  obtain ⟨_, p1, s1⟩ := h
  exact ⟨_, pe_one p1, s1⟩
theorem Dv.bl {K : PySem.W.Frag} {σ : L2.St} {F : Hp} {v : V} {k : Bool} (h : Dv K σ F v (.bl k)) : v = .bl k := by
  have h' : Dr K F v (.bl k) := h
  cases h'; rfl
theorem Dv.int {K : PySem.W.Frag} {σ : L2.St} {F : Hp} {v : V} {k : Int} (h : Dv K σ F v (.int k)) : v = .int k := by
  have h' : Dr K F v (.int k) := h
  cases h'; rfl
theorem Dv.str {K : PySem.W.Frag} {σ : L2.St} {F : Hp} {v : V} {k : Str} (h : Dv K σ F v (.str k)) : v = .str k := by
  have h' : Dr K F v (.str k) := h
  cases h'; rfl
theorem Dv.raw {K : PySem.W.Frag} {σ : L2.St} {F : Hp} {v k : V} (h : Dv K σ F v (.raw k)) : v = k := by
  have h' : Dr K F v (.raw k) := h
  cases h'; rfl
theorem Dv.non {K : PySem.W.Frag} {σ : L2.St} {F : Hp} {v : V} (h : Dv K σ F v .non) : v = .non := by
  have h' : Dr K F v .non := h
  cases h'; rfl
theorem Dv.tup {K : PySem.W.Frag} {σ : L2.St} {F : Hp} {v : V} {ds : List D} (h : Dv K σ F v (.tup ds)) : ∃ a xs, v = .ref a ∧ SqT K F a xs ∧ DrAll K F xs ds := by
  have h' : Dr K F v (.tup ds) := h
  cases h' with
  | tup a b => exact ⟨_, _, rfl, a, b⟩
theorem Dv.lst {K : PySem.W.Frag} {σ : L2.St} {F : Hp} {v : V} {ds : List D} (h : Dv K σ F v (.lst ds)) : ∃ a xs, v = .ref a ∧ SqL K F a xs ∧ DrAll K F xs ds := by
  have h' : Dr K F v (.lst ds) := h
  cases h' with
  | lst a b => exact ⟨_, _, rfl, a, b⟩
/-- a list, data or a name's own, is to be read -/
theorem Rel.listV {K : PySem.W.Frag} {z : Z0 R} {ρ : List En} {m : R.M} {σ : L2.St} {H F : Hp} (I : Rel K R z ρ m σ H F) {v : V} {d : D} {ds : List D} (r : Dv K σ F v d) (e : itemsL (R.view m) ρ d = some ds) : ∃ a xs, v = .ref a ∧ SqL K H a xs ∧ DrAll K F xs ds := by
  cases d <;> first | (cases e; done) | skip
  · cases e
    obtain ⟨a, xs, h1, h2, h3⟩ := r.lst
    exact ⟨a, xs, h1, I.sub.seq h2, h3⟩
  · rename_i w
    obtain rfl := r.raw
    cases v <;> first | (cases e; done) | skip
    rename_i a
    obtain ⟨vs, h1, h2⟩ := R.see I.res (show R.view m a = some ds from e)
    exact ⟨a, vs, rfl, SqL.of h1, h2⟩
  · rename_i i
    cases q : nth ρ i with
    | un => simp [itemsL, q] at e
    | dat d => simp [itemsL, q] at e
    | own xs =>
      have e' : xs = ds := by simpa [itemsL, q] using e
      subst e'
      obtain ⟨a, ys, h1, h2, _, _, h5⟩ := I.own_at (nth_get q (fun q => nomatch q))
      have h1' : σ[i]? = some (some v) := r
      rw [h1] at h1'
      cases h1'
      exact ⟨a, ys, rfl, SqL.of h2, h5⟩
theorem de_and (ha : DE X W R a ta) (hb : DE X W R (.BoolOp .And (b :: rest) pos) tb) : DE X W R (.BoolOp .And (a :: b :: rest) pos) (eAnd ta tb) := by
  obtain ⟨_, p1, s1⟩ := ha
  obtain ⟨_, p2, s2⟩ := hb
  refine ⟨_, pe_and p1 p2, fun z Z ρ m σ H F Q Qh hz I h q => ?_⟩
  refine s1 z Z ρ m σ H F _ _ hz I h fun v H1 F1 ρ1 m1 d I1 f1 r1 h1 => ?_
  cases d <;> first | exact h1.elim | skip
  rename_i c
  refine ⟨c, r1.bl, ?_⟩
  cases c with
  | true => exact iteT (s2 z Z ρ1 m1 σ H1 F1 _ _ hz I1 (h1.1 rfl) fun v H2 F2 ρ2 m2 d I2 f2 r2 h2 => q v H2 F2 ρ2 m2 d I2 (f1.trans f2) r2 h2)
  | false => exact iteF (q (.bl false) H1 F1 ρ1 m1 (.bl false) I1 f1 (Dr.bl false) (h1.2 rfl))
theorem de_or (ha : DE X W R a ta) (hb : DE X W R (.BoolOp .Or (b :: rest) pos) tb) : DE X W R (.BoolOp .Or (a :: b :: rest) pos) (eOr ta tb) := by
  obtain ⟨_, p1, s1⟩ := ha
  obtain ⟨_, p2, s2⟩ := hb
  refine ⟨_, pe_or p1 p2, fun z Z ρ m σ H F Q Qh hz I h q => ?_⟩
  refine s1 z Z ρ m σ H F _ _ hz I h fun v H1 F1 ρ1 m1 d I1 f1 r1 h1 => ?_
  cases d <;> first | exact h1.elim | skip
  rename_i c
  refine ⟨c, r1.bl, ?_⟩
  cases c with
  | true => exact iteT (q (.bl true) H1 F1 ρ1 m1 (.bl true) I1 f1 (Dr.bl true) (h1.1 rfl))
  | false => exact iteF (s2 z Z ρ1 m1 σ H1 F1 _ _ hz I1 (h1.2 rfl) fun v H2 F2 ρ2 m2 d I2 f2 r2 h2 => q v H2 F2 ρ2 m2 d I2 (f1.trans f2) r2 h2)
theorem de_not (ha : DE X W R a ta) : DE X W R (.UnaryOp .Not a pos) (eNot ta) := by
  obtain ⟨_, p1, s1⟩ := ha
  refine ⟨_, pe_not p1, fun z Z ρ m σ H F Q Qh hz I h q => ?_⟩
  refine s1 z Z ρ m σ H F _ _ hz I h fun v H1 F1 ρ1 m1 d I1 f1 r1 h1 => ?_
  cases d <;> first | exact h1.elim | skip
  rename_i c
  exact ⟨c, r1.bl, q _ H1 F1 ρ1 m1 (.bl (!c)) I1 f1 (Dr.bl (!c)) h1⟩
def eIf (t : TB R) (u w : TD R) : TD R := fun Z ρ m Q => t Z ρ m fun c ρ1 m1 => (c = true → u Z ρ1 m1 Q) ∧ (c = false → w Z ρ1 m1 Q)
theorem de_if (hc : DT X W R c t1) (ha : DE X W R a ta) (hb : DE X W R b tb) : DE X W R (.IfExp c a b pos) (eIf t1 ta tb) := by
  obtain ⟨_, p0, s0⟩ := hc
  obtain ⟨_, p1, s1⟩ := ha
  obtain ⟨_, p2, s2⟩ := hb
  refine ⟨_, pe_ifExp p0 p1 p2, fun z Z ρ m σ H F Q Qh hz I h q => ?_⟩
  refine s0 z Z ρ m σ H F _ _ hz I h fun c H1 F1 ρ1 m1 I1 f1 h1 => ?_
  cases c with
  | true => exact iteT (s1 z Z ρ1 m1 σ H1 F1 _ _ hz I1 (h1.1 rfl) fun v H2 F2 ρ2 m2 d I2 f2 r2 h2 => q v H2 F2 ρ2 m2 d I2 (f1.trans f2) r2 h2)
  | false => exact iteF (s2 z Z ρ1 m1 σ H1 F1 _ _ hz I1 (h1.2 rfl) fun v H2 F2 ρ2 m2 d I2 f2 r2 h2 => q v H2 F2 ρ2 m2 d I2 (f1.trans f2) r2 h2)

/-! ### statements -/
def sNext : TSd R := fun D ρ m => D.nx ρ m
def sBreak : TSd R := fun D ρ m => D.bk ρ m
def sCont : TSd R := fun D ρ m => D.ct ρ m
def sSeq (t u : TSd R) : TSd R := fun D ρ m => t { D with nx := fun ρ1 m1 => u D ρ1 m1 } ρ m
def sIf (c : TB R) (t u : TSd R) : TSd R := fun D ρ m => c D.rz ρ m fun k ρ1 m1 => (k = true → t D ρ1 m1) ∧ (k = false → u D ρ1 m1)
def sRet (t : TD R) : TSd R := fun D ρ m => t D.rz ρ m fun d _ m1 => d.firm ∧ D.rt d m1
def sRetN : TSd R := fun D _ m => D.rt .non m
def sSet (i : Nat) (t : TD R) : TSd R := fun D ρ m => t D.rz ρ m fun d ρ1 m1 => d.firm ∧ D.nx (ρ1.set i (.dat d)) m1
def sOwn (i : Nat) (t : TL R) : TSd R := fun D ρ m => t D.rz ρ m fun xs ρ1 m1 => D.nx (ρ1.set i (.own xs)) m1
def sDrop (t : TD R) : TSd R := fun D ρ m => t D.rz ρ m fun _ ρ1 m1 => D.nx ρ1 m1
theorem dss_nil : DSs X W R [] sNext := ⟨_, pss_nil, fun z ρ m σ H F D Dh M I h => M.nx ρ m σ H F I (Same.refl F) h⟩
theorem dss_one (h : DS X W R st ts) : DSs X W R [st] ts := by
  obtain ⟨_, p, s⟩ := h
  exact ⟨_, pss_one p, s⟩
theorem dss_cons (h1 : DS X W R st ts) (h2 : DSs X W R sts us) : DSs X W R (st :: sts) (sSeq ts us) := by
  obtain ⟨_, p1, s1⟩ := h1
  obtain ⟨_, p2, s2⟩ := h2
  refine ⟨_, pss_cons p1 p2, fun z ρ m σ H F D Dh M I h => ?_⟩
  have h' : ts { D with nx := fun ρ1 m1 => us D ρ1 m1 } ρ m := h
  exact s1 z ρ m σ H F { D with nx := fun ρ1 m1 => us D ρ1 m1 } _ ⟨fun ρ1 m1 σ1 H1 F1 I1 f1 h1 => s2 z ρ1 m1 σ1 H1 F1 D Dh (M.up f1) I1 h1, M.rt, M.bk, M.ct, M.rz⟩ I h'
theorem ds_pass : DS X W R (.Pass pos) sNext := ⟨_, ps_pass, fun z ρ m σ H F D Dh M I h => M.nx ρ m σ H F I (Same.refl F) h⟩
theorem ds_break : DS X W R (.Break pos) sBreak := ⟨_, ps_break, fun z ρ m σ H F D Dh M I h => M.bk ρ m σ H F I (Same.refl F) h⟩
theorem ds_cont : DS X W R (.Continue pos) sCont := ⟨_, ps_continue, fun z ρ m σ H F D Dh M I h => M.ct ρ m σ H F I (Same.refl F) h⟩
theorem ds_doc {x j pos'} : DS X W R (.Expr (.Constant (.str x) j pos) pos') sNext := ⟨_, ps_doc, fun z ρ m σ H F D Dh M I h => M.nx ρ m σ H F I (Same.refl F) h⟩
theorem ds_if {l r : List Stmt} (hc : DT X W R c t1) (ha : DSs X W R l ts) (hb : DSs X W R r us) : DS X W R (.If c l r pos) (sIf t1 ts us) := by
  obtain ⟨_, p0, s0⟩ := hc
  obtain ⟨_, p1, s1⟩ := ha
  obtain ⟨_, p2, s2⟩ := hb
  refine ⟨_, ps_if p0 p1 p2, fun z ρ m σ H F D Dh M I h => ?_⟩
  refine s0 z D.rz ρ m σ H F _ _ M.rz I h fun c H1 F1 ρ1 m1 I1 f1 h1 => ?_
  cases c with
  | true => exact iteT (s1 z ρ1 m1 σ H1 F1 D Dh (M.up f1.same) I1 (h1.1 rfl))
  | false => exact iteF (s2 z ρ1 m1 σ H1 F1 D Dh (M.up f1.same) I1 (h1.2 rfl))
theorem ds_ret (h : DE X W R e te) : DS X W R (.Return (some e) pos) (sRet te) := by
  obtain ⟨_, p, s⟩ := h
  refine ⟨_, ps_ret p, fun z ρ m σ H F D Dh M I h => ?_⟩
  exact s z D.rz ρ m σ H F _ _ M.rz I h fun v H1 F1 ρ1 m1 d I1 f1 r1 h1 => M.rt d ρ1 m1 v σ H1 F1 I1 f1.same (r1.dr h1.1) h1.2
theorem ds_retN : DS X W R (.Return none pos) sRetN := ⟨_, ps_retN, fun z ρ m σ H F D Dh M I h => M.rt .non ρ m .non σ H F I (Same.refl F) .non h⟩
theorem ds_set {i : Nat} {x : Str} {pos' : Pos} (hN : X.N.Nodup) (hi : X.N[i]? = some x) (hx : Loc X.env.scope x) (he : DE X W R e te) (hs : swapsWith e (some (.Name x pos')) pos.line X.env = pure false := by rfl)
    (hf : X.fn x = true ∨ X.env.scope.names.lookup x = some .local := by first | exact .inl rfl | exact .inr rfl | assumption) : DS X W R (.Assign [.Name x pos'] e pos) (sSet i te) := by
  obtain ⟨_, p, s⟩ := he
  refine ⟨_, ps_set hN hi hx p hs hf, fun z ρ m σ H F D Dh M I h => ?_⟩
  exact s z D.rz ρ m σ H F _ _ M.rz I h fun v H1 F1 ρ1 m1 d I1 f1 r1 h1 => M.nx _ m1 _ H1 F1 (I1.setDat i (r1.dr h1.1)) f1.same h1.2
theorem ds_own {i : Nat} {x : Str} {pos' : Pos} (hN : X.N.Nodup) (hi : X.N[i]? = some x) (hx : Loc X.env.scope x) (he : DO X W R e tl) (hs : swapsWith e (some (.Name x pos')) pos.line X.env = pure false := by rfl)
    (hf : X.fn x = true ∨ X.env.scope.names.lookup x = some .local := by first | exact .inl rfl | exact .inr rfl | assumption) : DS X W R (.Assign [.Name x pos'] e pos) (sOwn i tl) := by
  obtain ⟨_, p, s⟩ := he
  refine ⟨_, ps_set hN hi hx p hs hf, fun z ρ m σ H F D Dh M I h => ?_⟩
  exact s z D.rz ρ m σ H F _ _ M.rz I h fun a xs ds H1 F1 ρ1 m1 I1 f1 _ L hH r1 h1 => M.nx _ m1 _ H1 F1 (I1.setOwn i L hH r1) f1.same h1
theorem ds_expr (h : DE X W R e te) (hs : swapsWith e none pos.line X.env = pure false := by rfl) : DS X W R (.Expr e pos) (sDrop te) := by
  obtain ⟨_, p, s⟩ := h
  refine ⟨_, ps_expr p hs, fun z ρ m σ H F D Dh M I h => ?_⟩
  exact s z D.rz ρ m σ H F _ _ M.rz I h fun v H1 F1 ρ1 m1 d I1 f1 r1 h1 => M.nx ρ1 m1 σ H1 F1 I1 f1.same h1
/-- code that is never come to -/
def sNever : TSd R := fun _ _ _ => False
theorem ds_never : DS X W R st sNever := ⟨_, ps_never, fun _ _ _ _ _ _ _ _ _ _ h => h⟩
theorem dss_never : DSs X W R sts sNever := ⟨_, pss_never, fun _ _ _ _ _ _ _ _ _ _ h => h⟩

/-! ### while -/
/-- at most n turns -/
def whileN (c : TB R) (b : TSd R) (D : DEnds R) : Nat → List En → R.M → Prop
  | 0 => fun _ _ => False
  | n + 1 => fun ρ m => c D.rz ρ m fun k ρ1 m1 => (k = true → b { D with nx := whileN c b D n, ct := whileN c b D n, bk := D.nx } ρ1 m1) ∧ (k = false → D.nx ρ1 m1)
def sWhile (c : TB R) (b : TSd R) : TSd R := fun D ρ m => ∃ n, whileN c b D n ρ m
theorem ds_while {body : List Stmt} (hp : PassesOwn (model X.prog X.w) X.A X.env X.xe) (hc : DT X W R c t1) (hb : DSs X W R body ts) : DS X W R (.While c body [] pos) (sWhile t1 ts) := by
  obtain ⟨_, p0, s0⟩ := hc
  obtain ⟨_, p1, s1⟩ := hb
  refine ⟨_, ps_while hp p0 p1, fun z ρ m σ H F D Dh M I h => ?_⟩
  obtain ⟨n, hn⟩ := h
  refine ⟨fun k σ H => ∃ ρ m F', Rel X.K R z ρ m σ H F' ∧ Same F F' ∧ whileN t1 ts D k ρ m, ⟨n, ρ, m, F, I, Same.refl F, hn⟩, ?_⟩
  rintro k σ H ⟨ρ, m, F', I, s, hk⟩
  cases k with
  | zero => exact hk.elim
  | succ k =>
    refine s0 z D.rz ρ m σ H F' _ _ M.rz I hk fun c H1 F1 ρ1 m1 I1 f1 h1 => ?_
    have s1' := s.trans f1.same
    cases c with
    | true =>
      refine iteT ⟨fun σ' H' => ∃ ρ m F', Rel X.K R z ρ m σ' H' F' ∧ Same F F' ∧ whileN t1 ts D k ρ m, fun σ' H' q => ⟨k, Nat.lt_succ_self k, q⟩, ?_⟩
      exact s1 z ρ1 m1 σ H1 F1 { D with nx := whileN t1 ts D k, ct := whileN t1 ts D k, bk := D.nx } _ ⟨fun ρ m σ H F I e q => ⟨ρ, m, F, I, s1'.trans e, q⟩, (M.up s1').rt, (M.up s1').nx, fun ρ m σ H F I e q => ⟨ρ, m, F, I, s1'.trans e, q⟩, M.rz⟩ I1 (h1.1 rfl)
    | false => exact iteF (M.nx ρ1 m1 σ H1 F1 I1 s1' (h1.2 rfl))

/-! ### what is walked -/
/-- the walk J gives out the data ds, whatever is changed beside -/
structure Walks (K : PySem.W.Frag) (R : Rs) (z : Z0 R) (F : Hp) (J : It) (ds : List D) : Prop where
  go : ∀ i ρ m σ H F', Rel K R z ρ m σ H F' → Same F F' → i < ds.length → J.go i H
  yld : ∀ i ρ m σ H F' x H' d, Rel K R z ρ m σ H F' → Same F F' → ds[i]? = some d → J.yld i H x H' → ∃ F'', Rel K R z ρ m σ H' F'' ∧ Mv R ρ m σ H F' ρ m σ H' F'' ∧ Dr K F'' x d
  stop : ∀ i ρ m σ H F', Rel K R z ρ m σ H F' → Same F F' → ds.length ≤ i → J.stop i H
theorem Walks.up {K : PySem.W.Frag} {z : Z0 R} {F F' : Hp} {J : It} {ds : List D} (w : Walks K R z F J ds) (s : Same F F') : Walks K R z F' J ds :=
  ⟨fun i ρ m σ H G I e => w.go i ρ m σ H G I (s.trans e), fun i ρ m σ H G x H' d I e => w.yld i ρ m σ H G x H' d I (s.trans e), fun i ρ m σ H G I e => w.stop i ρ m σ H G I (s.trans e)⟩
def SI (K : PySem.W.Frag) (W : WX) (R : Rs) (wi : TI) (t : TL R) : Prop := ∀ (z : Z0 R) (Z : ZC R) (ρ : List En) (m : R.M) (σ : L2.St) (H F : Hp) (Q : KL R) (Rh : It → Hp → Prop), Zok K R z W Z → Rel K R z ρ m σ H F → t Z ρ m Q →
  (∀ J H' F' ρ' m' ds, Rel K R z ρ' m' σ H' F' → Mv R ρ m σ H F ρ' m' σ H' F' → Walks K R z F' J ds → Q ds ρ' m' → Rh J H') → wi σ H Rh
variable (X W R) in
structure DI (tg iter : Expr) (t : TL R) : Prop where
  ex : ∃ wi, PI X tg iter wi ∧ SI X.K W R wi t
/-- a target: the data, the names ahead, those behind -/
abbrev TGd (R : Rs) := D → List En → R.M → (List En → R.M → Prop) → Prop
def SG (K : PySem.W.Frag) (R : Rs) (g : TG) (t : TGd R) (ss : List Nat) : Prop := ∀ (z : Z0 R) (ρ : List En) (m : R.M) (σ : L2.St) (H F : Hp) (v : V) (d : D) (Q : List En → R.M → Prop) (Qh : L2.St → Hp → Prop), Rel K R z ρ m σ H F → Dr K F v d → t d ρ m Q →
  (∀ ρ' m' σ' H' F', Rel K R z ρ' m' σ' H' F' → Mv R ρ m σ H F ρ' m' σ' H' F' → (σ'.length = σ.length ∧ ∀ i, i ∉ ss → σ'[i]? = σ[i]?) → Q ρ' m' → Qh σ' H') → g v σ H Qh
variable (X R) in
structure DG (target : Expr) (t : TGd R) (ss : List Nat) : Prop where
  ex : ∃ g, PG X target g ∧ SG X.K R g t ss
/-- the turns over the data that are left -/
def forD (g : TGd R) (b : TSd R) (E : DEnds R) : List D → List En → R.M → Prop
  | [] => E.nx
  | x :: xs => fun ρ m => g x ρ m fun ρ1 m1 => b { E with nx := forD g b E xs, ct := forD g b E xs, bk := E.nx } ρ1 m1
def sFor (i : TL R) (g : TGd R) (b : TSd R) : TSd R := fun D ρ m => i D.rz ρ m fun xs ρ1 m1 => forD g b D xs ρ1 m1
theorem ds_for {tg iter : Expr} {body : List Stmt} {g : TGd R} {ss : List Nat} (hp : PassesOwn (model X.prog X.w) X.A X.env X.xe) (hc : X.calm = true) (hi : DI X W R tg iter tl) (hg : DG X R tg g ss) (hb : DSs X W R body ts) (hs : ∀ x, foldedSetIterable iter X.env x = pure x := by intro _; rfl) : DS X W R (.For tg iter body [] pos) (sFor tl g ts) := by
  obtain ⟨_, p0, s0⟩ := hi
  obtain ⟨_, p1, s1⟩ := hg
  obtain ⟨_, p2, s2⟩ := hb
  refine ⟨_, ps_for hp hc p0 p1 p2 hs, fun z ρ m σ H F D Dh M I h => ?_⟩
  refine s0 z D.rz ρ m σ H F _ _ M.rz I h fun J H1 F1 ρ1 m1 ds I1 f1 w h1 => ?_
  refine ⟨fun i n σ H => ∃ ρ m F, Rel X.K R z ρ m σ H F ∧ Same F1 F ∧ n = ds.length - i ∧ i ≤ ds.length ∧ forD g ts D (ds.drop i) ρ m, ⟨ds.length, ρ1, m1, F1, I1, Same.refl F1, rfl, Nat.zero_le _, h1⟩, ?_⟩
  rintro i n σ H ⟨ρ, m, F, I, s, rfl, hi, h⟩
  by_cases hlt : i < ds.length
  · refine .inr ⟨w.go i ρ m σ H F I s hlt, fun σ' H' => ∃ ρ m F, Rel X.K R z ρ m σ' H' F ∧ Same F1 F ∧ forD g ts D (ds.drop (i + 1)) ρ m, fun σ' H' ⟨ρ, m, F, I, s, h⟩ => ⟨ds.length - (i + 1), by omega, ρ, m, F, I, s, rfl, hlt, h⟩, fun x H' y => ?_⟩
    rw [List.drop_eq_getElem_cons hlt] at h
    obtain ⟨F2, I2, s2', r2⟩ := w.yld i ρ m σ H F x H' ds[i] I s (List.getElem?_eq_getElem hlt) y
    refine s1 z ρ m σ H' F2 x ds[i] _ _ I2 r2 h fun ρ3 m3 σ3 H3 F3 I3 f3 _ h3 => ?_
    have s3 : Same F1 F3 := (s.trans s2'.same).trans f3.same
    -- within a turn frozen data only grows
    have M3 := M.up (f1.same.trans s3)
    exact s2 z ρ3 m3 σ3 H3 F3 { D with nx := forD g ts D (ds.drop (i + 1)), ct := forD g ts D (ds.drop (i + 1)), bk := D.nx } _ ⟨fun ρ m σ H F I e q => ⟨ρ, m, F, I, s3.trans e, q⟩, M3.rt, M3.nx, fun ρ m σ H F I e q => ⟨ρ, m, F, I, s3.trans e, q⟩, M.rz⟩ I3 h3
  · have e : i = ds.length := by omega
    subst e
    rw [List.drop_length] at h
    exact .inl ⟨w.stop _ ρ m σ H F I s (Nat.le_refl _), M.nx ρ m σ H F I (f1.same.trans s) h⟩
end
end DL

/-! Data layer: operators, subscripts, calls of built-ins, lists. -/
namespace DL
open PySem L2

mutual
/-- as the library's data -/
def D.toP : D → PyData
  | .non => .none
  | .bl b => .bool b
  | .int i => .int i
  | .str x => .str x
  | .lst xs => .list (toPs xs)
  | .tup xs => .tuple (toPs xs)
  | .raw _ => .dict []
  | .slot _ => .dict []
def toPs : List D → List PyData
  | [] => []
  | d :: ds => d.toP :: toPs ds
end
mutual
def D.pl : D → Bool
  | .raw _ => false
  | .slot _ => false
  | .lst xs => pls xs
  | .tup xs => pls xs
  | _ => true
def pls : List D → Bool
  | [] => true
  | d :: ds => d.pl && pls ds
end
section
variable {K : PySem.W.Frag} {F : Hp}
mutual
theorem Dr.dp : ∀ (d : D) (v : V), Dr K F v d → d.pl = true → Dp K F v d.toP
  | .non, _, h, _ => by cases h; exact .non
  | .bl b, _, h, _ => by cases h; exact .bl b
  | .int i, _, h, _ => by cases h; exact .int i
  | .str x, _, h, _ => by cases h; exact .str x
  | .lst ds, _, h, p => by
    cases h with
    | lst q a => exact .lst q (DrAll.dp ds _ a p)
  | .tup ds, _, h, p => by
    cases h with
    | tup q a => exact .tup q (DrAll.dp ds _ a p)
  | .raw v, _, _, p => by cases p
  | .slot _, _, _, p => by cases p
theorem DrAll.dp : ∀ (ds : List D) (vs : List V), DrAll K F vs ds → pls ds = true → DpAll K F vs (toPs ds)
  | [], _, h, _ => by cases h; exact .nil
  | d :: ds, _, h, p => by
    cases h with
    | cons h1 h2 =>
      have q := Bool.and_eq_true_iff.mp (show (d.pl && pls ds) = true from p)
      exact .cons (Dr.dp d _ h1 q.1) (DrAll.dp ds _ h2 q.2)
end
mutual
theorem Dp.up {F' : Hp} (s : Same F F') : ∀ (d : PyData) (v : V), Dp K F v d → Dp K F' v d
  | .none, _, h => by cases h; exact .non
  | .bool b, _, h => by cases h; exact .bl b
  | .int i, _, h => by cases h; exact .int i
  | .str x, _, h => by cases h; exact .str x
  | .list ds, _, h => by
    cases h with
    | lst q a => exact .lst (s.seq q) (DpAll.up s ds _ a)
  | .tuple ds, _, h => by
    cases h with
    | tup q a => exact .tup (Same.sqT s q) (DpAll.up s ds _ a)
  | .dict _, _, h => by cases h
theorem DpAll.up {F' : Hp} (s : Same F F') : ∀ (ds : List PyData) (vs : List V), DpAll K F vs ds → DpAll K F' vs ds
  | [], _, h => by cases h; exact .nil
  | d :: ds, _, h => by
    cases h with
    | cons h1 h2 => exact .cons (Dp.up s d _ h1) (DpAll.up s ds _ h2)
end
end
/-- a name's own list as data -/
def flat (w : Vw) (ρ : List En) : D → D
  | .slot i => match nth ρ i with
    | .own xs => .lst xs
    | _ => .slot i
  | .raw (.ref a) => match w a with
    | some xs => .lst xs
    | none => .raw (.ref a)
  | d => d
theorem Rel.dp {R : Rs} {K : PySem.W.Frag} {z : Z0 R} {ρ : List En} {m : R.M} {σ : L2.St} {H F : Hp} (I : Rel K R z ρ m σ H F) {v : V} {d : D} (r : Dv K σ F v d) (p : (flat (R.view m) ρ d).pl = true) : Dp K H v (flat (R.view m) ρ d).toP := by
  cases d with
  | slot i =>
    cases q : nth ρ i with
    | un => simp [flat, q, D.pl] at p
    | dat e => simp [flat, q, D.pl] at p
    | own xs =>
      have e : flat (R.view m) ρ (.slot i) = .lst xs := by simp [flat, q]
      rw [e] at p ⊢
      obtain ⟨a, ys, h1, h2, h3⟩ := I.listV (d := .slot i) r (show itemsL (R.view m) ρ (.slot i) = some xs by simp [itemsL, q])
      subst h1
      exact .lst h2 (DpAll.up I.sub _ _ (DrAll.dp _ _ h3 p))
  | non => exact Dp.up I.sub _ _ (Dr.dp _ _ r p)
  | bl b => exact Dp.up I.sub _ _ (Dr.dp _ _ r p)
  | int i => exact Dp.up I.sub _ _ (Dr.dp _ _ r p)
  | str x => exact Dp.up I.sub _ _ (Dr.dp _ _ r p)
  | lst xs => exact Dp.up I.sub _ _ (Dr.dp _ _ r p)
  | tup xs => exact Dp.up I.sub _ _ (Dr.dp _ _ r p)
  | raw w =>
    cases w with
    | ref a =>
      cases q : R.view m a with
      | none => simp [flat, q, D.pl] at p
      | some xs =>
        have e : flat (R.view m) ρ (.raw (.ref a)) = .lst xs := by simp [flat, q]
        rw [e] at p ⊢
        obtain ⟨a, ys, h1, h2, h3⟩ := I.listV (d := .raw (.ref a)) r (show itemsL (R.view m) ρ (.raw (.ref a)) = some xs by simp [itemsL, q])
        subst h1
        exact .lst h2 (DpAll.up I.sub _ _ (DrAll.dp _ _ h3 p))
    | _ => cases p

/-! ### operators by values -/
abbrev D2 := Vw → List En → D → D → (D → Prop) → Prop
section
variable (K : PySem.W.Frag) (R : Rs)
def OpL (r : R2) (o : D2) : Prop := ∀ (z : Z0 R) (ρ : List En) (m : R.M) (σ : L2.St) (H F : Hp) (v u : V) (x y : D) (Q : D → Prop) (Qh : VK), Rel K R z ρ m σ H F → Dv K σ F v x → Dv K σ F u y → o (R.view m) ρ x y Q →
  (∀ w H' F' d, Rel K R z ρ m σ H' F' → Mv R ρ m σ H F ρ m σ H' F' → Dr K F' w d → Q d → Qh w H') → r v u H Qh
/-- .. a new list -/
abbrev D2L := Vw → List En → D → D → (List D → Prop) → Prop
def OpO (r : R2) (o : D2L) : Prop := ∀ (z : Z0 R) (ρ : List En) (m : R.M) (σ : L2.St) (H F : Hp) (v u : V) (x y : D) (Q : List D → Prop) (Qh : VK), Rel K R z ρ m σ H F → Dv K σ F v x → Dv K σ F u y → o (R.view m) ρ x y Q →
  (∀ a xs ds H', Rel K R z ρ m σ H' F → Mv R ρ m σ H F ρ m σ H' F → H a = none → Loose K R z ρ m σ H' F a → H' a = some (.lst xs) → DrAll K F xs ds → Q ds → Qh (.ref a) H') → r v u H Qh
end
section
variable {X : Cx} {W : WX} {R : Rs} {a b e : Expr} {pos : Pos} {ta tb te : TD R}
def eOp (o : D2) (ta tb : TD R) : TD R := fun Z ρ m Q => ta Z ρ m fun x ρ1 m1 => tb Z ρ1 m1 fun y ρ2 m2 => o (R.view m2) ρ2 x y fun d => Q d ρ2 m2
def eOpO (o : D2L) (ta tb : TD R) : TL R := fun Z ρ m Q => ta Z ρ m fun x ρ1 m1 => tb Z ρ1 m1 fun y ρ2 m2 => o (R.view m2) ρ2 x y fun d => Q d ρ2 m2
theorem se_op {t1 t2 : TE} {r : R2} {o : D2} (s1 : SE X.K W R t1 ta) (s2 : SE X.K W R t2 tb) (L : OpL X.K R r o) : SE X.K W R (tOp r t1 t2) (eOp o ta tb) := fun z Z ρ m σ H F Q Qh hz I h q =>
  s1 z Z ρ m σ H F _ _ hz I h fun v H1 F1 ρ1 m1 x I1 f1 r1 h1 => s2 z Z ρ1 m1 σ H1 F1 _ _ hz I1 h1 fun u H2 F2 ρ2 m2 y I2 f2 r2 h2 =>
    L z ρ2 m2 σ H2 F2 v u x y _ _ I2 (r1.up f2.same) r2 h2 fun w H' F' d J s rd hq => q w H' F' ρ2 m2 d J ((f1.trans f2).trans s) rd.dv hq
theorem so_op {t1 t2 : TE} {r : R2} {o : D2L} (s1 : SE X.K W R t1 ta) (s2 : SE X.K W R t2 tb) (L : OpO X.K R r o) : SO X.K W R (tOp r t1 t2) (eOpO o ta tb) := fun z Z ρ m σ H F Q Qh hz I h q =>
  s1 z Z ρ m σ H F _ _ hz I h fun v H1 F1 ρ1 m1 x I1 f1 r1 h1 => s2 z Z ρ1 m1 σ H1 F1 _ _ hz I1 h1 fun u H2 F2 ρ2 m2 y I2 f2 r2 h2 =>
    L z ρ2 m2 σ H2 F2 v u x y _ _ I2 (r1.up f2.same) r2 h2 fun a xs ds H' J s hN L hH rd hq => q a xs ds H' F2 ρ2 m2 J ((f1.trans f2).trans s) ((f1.trans f2).free hN) L hH rd hq
theorem de_op {op : Operator} {r : R2} {o : D2} (ho : OpR X (binaryOp op) r) (L : OpL X.K R r o) (ha : DE X W R a ta) (hb : DE X W R b tb) : DE X W R (.BinOp a op b pos) (eOp o ta tb) := by
  obtain ⟨_, p1, s1⟩ := ha
  obtain ⟨_, p2, s2⟩ := hb
  exact ⟨_, pe_op ho p1 p2, se_op s1 s2 L⟩
theorem do_op {op : Operator} {r : R2} {o : D2L} (ho : OpR X (binaryOp op) r) (L : OpO X.K R r o) (ha : DE X W R a ta) (hb : DE X W R b tb) : DO X W R (.BinOp a op b pos) (eOpO o ta tb) := by
  obtain ⟨_, p1, s1⟩ := ha
  obtain ⟨_, p2, s2⟩ := hb
  exact ⟨_, pe_op ho p1 p2, so_op s1 s2 L⟩
theorem de_cmp {op : CmpOp} {r : R2} {o : D2} (ho : OpR X (compareOp op) r) (L : OpL X.K R r o) (ha : DE X W R a ta) (hb : DE X W R b tb) (hm : behindInMarks op b = false) : DE X W R (.Compare a [op] [b] pos) (eOp o ta tb) := by
  obtain ⟨_, p1, s1⟩ := ha
  obtain ⟨_, p2, s2⟩ := hb
  exact ⟨_, pe_cmpR ho p1 p2 hm, se_op s1 s2 L⟩
theorem dt_cmp {op : CmpOp} {r : R2} {o : D2} (ho : OpR X (compareOp op) r) (L : OpL X.K R r o) (ha : DE X W R a ta) (hb : DE X W R b tb) (hm : behindInMarks op b = false) : DT X W R (.Compare a [op] [b] pos) (bOf (eOp o ta tb)) := by
  obtain ⟨_, p1, s1⟩ := ha
  obtain ⟨_, p2, s2⟩ := hb
  refine ⟨_, pt_cmpR ho p1 p2 hm, fun z Z ρ m σ H F Q Qh hz I h q => ?_⟩
  refine se_op s1 s2 L z Z ρ m σ H F _ _ hz I h fun v H' F' ρ' m' d I' s r hq => ?_
  cases d <;> first | exact hq.elim | skip
  rename_i k
  exact ⟨k, r.bl, q k H' F' ρ' m' I' s hq⟩
theorem de_ix {r : R2} {o : D2} (hr : IxR X r) (L : OpL X.K R r o) (ha : DE X W R a ta) (hb : DE X W R b tb) (hs : PlainIx b := by exact fun _ _ => rfl) : DE X W R (.Subscript a b pos) (eOp o ta tb) := by
  obtain ⟨_, p1, s1⟩ := ha
  obtain ⟨_, p2, s2⟩ := hb
  exact ⟨_, pe_ix hr p1 p2 hs, se_op s1 s2 L⟩

/-! ints -/
def dI (C : Int → Int → Prop) (g : Int → Int → D) : D2 := fun _ _ x y Q => match x, y with
  | .int i, .int j => C i j ∧ Q (g i j)
  | _, _ => False
def dI0 (g : Int → Int → D) : D2 := fun _ _ x y Q => match x, y with
  | .int i, .int j => Q (g i j)
  | _, _ => False
theorem opl_I {C : Int → Int → Prop} {f : Int → Int → V} {g : Int → Int → D} (h : ∀ K F i j, Dr K F (f i j) (g i j)) : OpL X.K R (rI C f) (dI C g) := fun z ρ m σ H F v u x y Q Qh I rx ry h0 q => by
  cases x <;> first | exact h0.elim | skip
  cases y <;> first | exact h0.elim | skip
  exact ⟨_, _, rx.int, ry.int, h0.1, q _ H F _ I Mv.refl (h _ _ _ _) h0.2⟩
theorem opl_I0 {f : Int → Int → V} {g : Int → Int → D} (h : ∀ K F i j, Dr K F (f i j) (g i j)) : OpL X.K R (rI0 f) (dI0 g) := fun z ρ m σ H F v u x y Q Qh I rx ry h0 q => by
  cases x <;> first | exact h0.elim | skip
  cases y <;> first | exact h0.elim | skip
  exact ⟨_, _, rx.int, ry.int, q _ H F _ I Mv.refl (h _ _ _ _) h0⟩
/-- products: one side below 2 ^ 64 -/
def MulOk (i j : Int) : Prop := (-(2 ^ 64) < i ∧ i < 2 ^ 64) ∨ (-(2 ^ 64) < j ∧ j < 2 ^ 64)
abbrev dSub : D2 := dI0 fun i j => .int (i - j)
abbrev dMul : D2 := dI CMul fun i j => .int (i * j)
abbrev dMod : D2 := dI (fun _ j => 0 < j) fun i j => .int (i % j)
abbrev dDiv : D2 := dI CDivW fun i j => .int (i / j)
abbrev dPow : D2 := dI CPow fun i j => .int (i ^ j.toNat)
abbrev dShl : D2 := dI CPow fun i j => .int (i * 2 ^ j.toNat)
abbrev dShr : D2 := dI (fun _ j => 0 ≤ j) fun i j => .int (i / 2 ^ j.toNat)
abbrev dLt : D2 := dI0 fun i j => .bl (decide (i < j))
abbrev dLe : D2 := dI0 fun i j => .bl (decide (i ≤ j))
abbrev dGt : D2 := dI0 fun i j => .bl (decide (j < i))
abbrev dGe : D2 := dI0 fun i j => .bl (decide (j ≤ i))
theorem de_sub (ha : DE X W R a ta) (hb : DE X W R b tb) : DE X W R (.BinOp a .Sub b pos) (eOp dSub ta tb) := de_op op_sub (opl_I0 fun _ _ _ _ => .int _) ha hb
theorem de_mul (ha : DE X W R a ta) (hb : DE X W R b tb) : DE X W R (.BinOp a .Mult b pos) (eOp dMul ta tb) := de_op op_mul (opl_I fun _ _ _ _ => .int _) ha hb
theorem de_mod (ha : DE X W R a ta) (hb : DE X W R b tb) : DE X W R (.BinOp a .Mod b pos) (eOp dMod ta tb) := de_op op_mod (opl_I fun _ _ _ _ => .int _) ha hb
theorem de_div (ha : DE X W R a ta) (hb : DE X W R b tb) : DE X W R (.BinOp a .FloorDiv b pos) (eOp dDiv ta tb) := de_op op_fdivW (opl_I fun _ _ _ _ => .int _) ha hb
theorem de_pow (ha : DE X W R a ta) (hb : DE X W R b tb) : DE X W R (.BinOp a .Pow b pos) (eOp dPow ta tb) := de_op op_pow (opl_I fun _ _ _ _ => .int _) ha hb
theorem de_shl (ha : DE X W R a ta) (hb : DE X W R b tb) : DE X W R (.BinOp a .LShift b pos) (eOp dShl ta tb) := de_op op_shl (opl_I fun _ _ _ _ => .int _) ha hb
theorem de_shr (ha : DE X W R a ta) (hb : DE X W R b tb) : DE X W R (.BinOp a .RShift b pos) (eOp dShr ta tb) := de_op op_shr (opl_I fun _ _ _ _ => .int _) ha hb
theorem opr_lt : OpR X (compareOp .Lt) (rI0 fun i j => .bl (decide (i < j))) := op_lt
theorem de_lt (ha : DE X W R a ta) (hb : DE X W R b tb) : DE X W R (.Compare a [.Lt] [b] pos) (eOp dLt ta tb) := de_cmp op_lt (opl_I0 fun _ _ _ _ => .bl _) ha hb (nomark _)
theorem de_gt (ha : DE X W R a ta) (hb : DE X W R b tb) : DE X W R (.Compare a [.Gt] [b] pos) (eOp dGt ta tb) := de_cmp op_gt (opl_I0 fun _ _ _ _ => .bl _) ha hb (nomark _)
theorem de_ge (ha : DE X W R a ta) (hb : DE X W R b tb) : DE X W R (.Compare a [.GtE] [b] pos) (eOp dGe ta tb) := de_cmp op_ge (opl_I0 fun _ _ _ _ => .bl _) ha hb (nomark _)
theorem dt_lt (ha : DE X W R a ta) (hb : DE X W R b tb) : DT X W R (.Compare a [.Lt] [b] pos) (bOf (eOp dLt ta tb)) := dt_cmp op_lt (opl_I0 fun _ _ _ _ => .bl _) ha hb (nomark _)
theorem dt_gt (ha : DE X W R a ta) (hb : DE X W R b tb) : DT X W R (.Compare a [.Gt] [b] pos) (bOf (eOp dGt ta tb)) := dt_cmp op_gt (opl_I0 fun _ _ _ _ => .bl _) ha hb (nomark _)
theorem dt_ge (ha : DE X W R a ta) (hb : DE X W R b tb) : DT X W R (.Compare a [.GtE] [b] pos) (bOf (eOp dGe ta tb)) := dt_cmp op_ge (opl_I0 fun _ _ _ _ => .bl _) ha hb (nomark _)

/-! a union of two readings -/
def rOr (r r' : R2) : R2 := fun x y H Q => r x y H Q ∨ r' x y H Q
theorem opr_or {f : Value → Value → Sem Value} {r r' : R2} (h : OpR X f r) (h' : OpR X f r') : OpR X f (rOr r r') := fun pins s σ H x y v u Q I rx ry q =>
  q.elim (h pins s σ H x y v u Q I rx ry) (h' pins s σ H x y v u Q I rx ry)

/-! + -/
def rCatS (K : PySem.W.Frag) : R2 := fun x y H Q => ∃ l b xs zs, x = .ref l ∧ y = .ref b ∧ SqL K H l xs ∧ SqL K H b zs ∧ xs.length + zs.length ≤ sizeLine ∧ ∀ p, H p = none → Q (.ref p) (upd H p (.lst (xs ++ zs)))
theorem op_catS : OpR X (binaryOp .Add) (rCatS X.K) := by
  intro pins s σ H x y v u Q I rx ry h
  obtain ⟨l, b, xs, zs, rfl, rfl, hl, hb, hz, q⟩ := h
  cases rx
  cases ry
  obtain ⟨its, r1, p1, _⟩ := I.list hl
  obtain ⟨its2, r2, p2, _⟩ := I.list hb
  have e1 := r1.length
  have e2 := r2.length
  obtain ⟨⟨c1, d1, t1, s1⟩, ho, hc, n, hd⟩ := p1.isList
  obtain ⟨⟨c2, d2, t2, s2⟩, ho2, hc2, n2, hd2⟩ := p2.isList
  simp only at hc hd hc2 hd2
  subst hc hd hc2 hd2
  have e : its.toArray ++ its2.toArray = (its ++ its2).toArray := by simp
  refine concat_meets ⟨_, ho, rfl⟩ ⟨_, ho2, rfl⟩ noFill_list_add seq_list_add F.slot_list_add F.entry_list_add (F.args_list_add_2 _ _)
    (PyProof.Rows.list_addW l b its.toArray its2.toArray n n2 d1 d2 s1 s2 (by simp only [List.size_toArray]; omega)) ⟨ho, ho2, ?_⟩
  rw [e]
  refine ⟨.ref _, _, I.laid (t' := s.toks) (o := .lst (xs ++ zs)) (fun c o q => Heap.get?_push_of_some _ q) (Nat.le_refl _) ?_, rfl, q _ (I.hok.fresh (Nat.le_refl _))⟩
  exact ⟨by rw [List.length_append]; exact hz, _, 0, r1.append r2, Heap.get?_push_size _ rfl⟩
def rAddS : R2 := fun x y H Q => ∃ i j, x = .str i ∧ y = .str j ∧ i.length + j.length ≤ sizeLine ∧ Q (.str (i ++ j)) H
def rAddU (K : PySem.W.Frag) : R2 := rOr (rI0 fun i j => .int (i + j)) (rOr rAddS (rOr (rCatA K) (rCatS K)))
theorem op_addU : OpR X (binaryOp .Add) (rAddU X.K) := opr_or op_add (opr_or op_add_str (opr_or op_catA op_catS))
def dCat : D2L := fun w ρ x y Q => match itemsL w ρ x, itemsL w ρ y with
  | some xs, some ys => xs.length + ys.length ≤ sizeLine ∧ Q (xs ++ ys)
  | _, _ => False
def dAdd : D2 := fun w ρ x y Q => match x, y with
  | .int i, .int j => Q (.int (i + j))
  | .str i, .str j => i.length + j.length ≤ sizeLine ∧ Q (.str (i ++ j))
  | .tup xs, .tup ys => xs.length + ys.length ≤ sizeLine ∧ Q (.tup (xs ++ ys))
  | x, y => dCat w ρ x y fun xs => Q (.lst xs)
theorem opo_cat : OpO X.K R (rCatS X.K) dCat := fun z ρ m σ H F v u x y Q Qh I rx ry h0 q => by
  unfold dCat at h0
  cases e1 : itemsL (R.view m) ρ x with
  | none => rw [e1] at h0; exact h0.elim
  | some xs =>
    cases e2 : itemsL (R.view m) ρ y with
    | none => rw [e1, e2] at h0; exact h0.elim
    | some ys =>
      rw [e1, e2] at h0
      obtain ⟨l, vs, rfl, hl, rl⟩ := I.listV rx e1
      obtain ⟨b, us, rfl, hb, rb⟩ := I.listV ry e2
      refine ⟨l, b, vs, us, rfl, rfl, hl, hb, by rw [rl.length, rb.length]; exact h0.1, fun p hp => ?_⟩
      exact q p _ _ _ (I.alloc hp) (Mv.alloc hp) hp (I.loose_new hp) upd_same (rl.append rb) h0.2
theorem OpO.fz {r : R2} {o : D2L} (L : OpO X.K R r o) : OpL X.K R r (fun w ρ x y Q => o w ρ x y fun xs => Q (.lst xs)) := fun z ρ m σ H F v u x y Q Qh I rx ry h0 q =>
  L z ρ m σ H F v u x y _ _ I rx ry h0 fun a xs ds H' J mv hN Lo hH rd hq => by
    obtain ⟨J2, s⟩ := J.freeze Lo hH
    exact q _ H' _ _ J2 (mv.freeze hN Lo.fF) (.lst (SqL.of upd_same) (rd.up s)) hq
theorem opl_add : OpL X.K R (rAddU X.K) dAdd := fun z ρ m σ H F v u x y Q Qh I rx ry h0 q => by
  unfold dAdd at h0
  split at h0
  · exact .inl ⟨_, _, rx.int, ry.int, q _ H F _ I Mv.refl (.int _) h0⟩
  · exact .inr (.inl ⟨_, _, rx.str, ry.str, h0.1, q _ H F _ I Mv.refl (.str _) h0.2⟩)
  · rename_i xs ys
    obtain ⟨a, vs, rfl, ha, ra⟩ := rx.tup
    obtain ⟨b, us, rfl, hb, rb⟩ := ry.tup
    refine .inr (.inr (.inl ⟨a, b, vs, us, rfl, rfl, Same.sqT I.sub ha, Same.sqT I.sub hb, by rw [ra.length, rb.length]; exact h0.1, fun e => ?_, fun _ e => ?_, fun _ _ p hp => ?_⟩))
    · subst e
      cases ra
      exact q _ H F _ I Mv.refl (.tup hb rb) h0.2
    · subst e
      cases rb
      rw [List.append_nil] at h0
      exact q _ H F _ I Mv.refl (.tup ha ra) h0.2
    · obtain ⟨J2, s⟩ := (I.alloc (o := .tup (vs ++ us)) hp).freeze (I.loose_new hp) upd_same
      exact q _ _ _ _ J2 ((Mv.alloc hp).freeze hp (I.sub.free hp)) (.tup (SqT.of upd_same) ((ra.append rb).up s)) h0.2
  · exact .inr (.inr (.inr (OpO.fz opo_cat z ρ m σ H F v u _ _ Q Qh I rx ry h0 q)))
theorem de_add (ha : DE X W R a ta) (hb : DE X W R b tb) : DE X W R (.BinOp a .Add b pos) (eOp dAdd ta tb) := de_op op_addU opl_add ha hb
theorem do_cat (ha : DE X W R a ta) (hb : DE X W R b tb) : DO X W R (.BinOp a .Add b pos) (eOpO dCat ta tb) := do_op op_catS opo_cat ha hb

/-! ==, != -/
def dEqB (w : Vw) (ρ : List En) (x y : D) (Q : Bool → Prop) : Prop := match x, y with
  | .int i, .int j => Q (decide (i = j))
  | .str i, .str j => Q (decide (i = j))
  | .bl i, .bl j => Q (decide (i = j))
  | x, y => (flat w ρ x).pl = true ∧ (flat w ρ y).pl = true ∧ SeqAt.shaped (flat w ρ x).toP = true ∧ SeqAt.shaped (flat w ρ y).toP = true ∧ Q (PyData.eqv (flat w ρ x).toP (flat w ρ y).toP)
def dEq : D2 := fun w ρ x y Q => dEqB w ρ x y fun k => Q (.bl k)
def dNe : D2 := fun w ρ x y Q => dEqB w ρ x y fun k => Q (.bl (!k))
theorem dec_vint {i j : Int} : decide (V.int i = V.int j) = decide (i = j) := by simp
theorem dec_vstr {i j : Str} : decide (V.str i = V.str j) = decide (i = j) := by simp
theorem dec_vbl {i j : Bool} : decide (V.bl i = V.bl j) = decide (i = j) := by simp
theorem opl_eqB {r rd : R2} {fb : Bool → Bool} (hs : ∀ x y H Q, scal x y = true → Q (V.bl (fb (decide (x = y)))) H → r x y H Q)
    (hd : ∀ x y H Q d e, Dp X.K H x d → Dp X.K H y e → SeqAt.shaped d = true → SeqAt.shaped e = true → Q (.bl (fb (PyData.eqv d e))) H → rd x y H Q) : OpL X.K R (rOr r rd) (fun w ρ x y Q => dEqB w ρ x y fun k => Q (.bl (fb k))) := fun z ρ m σ H F v u x y Q Qh I rx ry h0 q => by
  have h0 : dEqB (R.view m) ρ x y fun k => Q (.bl (fb k)) := h0
  unfold dEqB at h0
  split at h0
  · obtain rfl := rx.int
    obtain rfl := ry.int
    exact .inl (hs _ _ _ _ rfl (by rw [dec_vint]; exact q _ H F _ I Mv.refl (.bl _) h0))
  · obtain rfl := rx.str
    obtain rfl := ry.str
    exact .inl (hs _ _ _ _ rfl (by rw [dec_vstr]; exact q _ H F _ I Mv.refl (.bl _) h0))
  · obtain rfl := rx.bl
    obtain rfl := ry.bl
    exact .inl (hs _ _ _ _ rfl (by rw [dec_vbl]; exact q _ H F _ I Mv.refl (.bl _) h0))
  · obtain ⟨p1, p2, s1, s2, hq⟩ := h0
    exact .inr (hd _ _ _ _ _ _ (I.dp rx p1) (I.dp ry p2) s1 s2 (q _ H F _ I Mv.refl (.bl _) hq))
theorem opl_eq : OpL X.K R (rOr rEq (rEqD X.K)) dEq := opl_eqB (fb := fun k => k) (fun _ _ _ _ h q => ⟨h, q⟩) fun _ _ _ _ d e a b c f q => ⟨d, e, a, b, c, f, q⟩
theorem opl_ne : OpL X.K R (rOr rNe (rNeD X.K)) dNe := opl_eqB (fb := fun k => !k) (fun _ _ _ _ h q => ⟨h, q⟩) fun _ _ _ _ d e a b c f q => ⟨d, e, a, b, c, f, q⟩
theorem de_eq (hu : X.A.units + 64 < cLine) (ha : DE X W R a ta) (hb : DE X W R b tb) : DE X W R (.Compare a [.Eq] [b] pos) (eOp dEq ta tb) := de_cmp (opr_or op_eq (op_eqD hu)) opl_eq ha hb (nomark _)
theorem de_ne (hu : X.A.units + 64 < cLine) (ha : DE X W R a ta) (hb : DE X W R b tb) : DE X W R (.Compare a [.NotEq] [b] pos) (eOp dNe ta tb) := de_cmp (opr_or op_ne (op_neD hu)) opl_ne ha hb (nomark _)
theorem dt_eq (hu : X.A.units + 64 < cLine) (ha : DE X W R a ta) (hb : DE X W R b tb) : DT X W R (.Compare a [.Eq] [b] pos) (bOf (eOp dEq ta tb)) := dt_cmp (opr_or op_eq (op_eqD hu)) opl_eq ha hb (nomark _)
theorem dt_ne (hu : X.A.units + 64 < cLine) (ha : DE X W R a ta) (hb : DE X W R b tb) : DT X W R (.Compare a [.NotEq] [b] pos) (bOf (eOp dNe ta tb)) := dt_cmp (opr_or op_ne (op_neD hu)) opl_ne ha hb (nomark _)

/-! is -/
def dIsB (x y : D) (Q : Bool → Prop) : Prop := match x, y with
  | .bl i, .bl j => Q (decide (i = j))
  | .non, .non => Q true
  | .int _, .non => Q false
  | .str _, .non => Q false
  | .bl _, .non => Q false
  | .lst _, .non => Q false
  | .tup _, .non => Q false
  | .raw (.ref _), .non => Q false
  | _, _ => False
def dIs : D2 := fun _ _ x y Q => dIsB x y fun k => Q (.bl k)
def dIsNot : D2 := fun _ _ x y Q => dIsB x y fun k => Q (.bl (!k))
def rIsNon : R2 := fun x y H Q => y = .non ∧ Q (.bl (decide (x = .non))) H
def rIsNot : R2 := fun x y H Q => y = .non ∧ Q (.bl (!decide (x = .non))) H
theorem opl_is {rb rn : R2} {fb : Bool → Bool} (hb : ∀ i j H Q, Q (V.bl (fb (decide (i = j)))) H → rb (.bl i) (.bl j) H Q) (hn : ∀ x H Q, Q (V.bl (fb (decide (x = V.non)))) H → rn x .non H Q) :
    OpL X.K R (rOr rb rn) (fun _ _ x y Q => dIsB x y fun k => Q (.bl (fb k))) := fun z ρ m σ H F v u x y Q Qh I rx ry h0 q => by
  have fin : ∀ k, Q (.bl (fb k)) → Qh (.bl (fb k)) H := fun k h => q _ H F _ I Mv.refl (.bl _) h
  have h0 : dIsB x y fun k => Q (.bl (fb k)) := h0
  unfold dIsB at h0
  split at h0
  · obtain rfl := rx.bl
    obtain rfl := ry.bl
    exact .inl (hb _ _ _ _ (fin _ h0))
  · obtain rfl := rx.non
    obtain rfl := ry.non
    exact .inr (hn _ _ _ (fin _ h0))
  · obtain rfl := rx.int
    obtain rfl := ry.non
    exact .inr (hn _ _ _ (fin _ h0))
  · obtain rfl := rx.str
    obtain rfl := ry.non
    exact .inr (hn _ _ _ (fin _ h0))
  · obtain rfl := rx.bl
    obtain rfl := ry.non
    exact .inr (hn _ _ _ (fin _ h0))
  · obtain ⟨_, _, rfl, _⟩ := rx.lst
    obtain rfl := ry.non
    exact .inr (hn _ _ _ (fin _ h0))
  · obtain ⟨_, _, rfl, _⟩ := rx.tup
    obtain rfl := ry.non
    exact .inr (hn _ _ _ (fin _ h0))
  · obtain rfl := rx.raw
    obtain rfl := ry.non
    exact .inr (hn _ _ _ (fin _ h0))
  · exact h0.elim
theorem de_is (ha : DE X W R a ta) (hb : DE X W R b tb) : DE X W R (.Compare a [.Is] [b] pos) (eOp dIs ta tb) :=
  de_cmp (opr_or op_isBl op_isN) (opl_is (fb := fun k => k) (fun i j _ _ q => ⟨i, j, rfl, rfl, q⟩) fun _ _ _ q => ⟨rfl, q⟩) ha hb (nomark _)
theorem de_isnot (ha : DE X W R a ta) (hb : DE X W R b tb) : DE X W R (.Compare a [.IsNot] [b] pos) (eOp dIsNot ta tb) :=
  de_cmp (opr_or op_notBl op_notN) (opl_is (fb := fun k => !k) (fun i j _ _ q => ⟨i, j, rfl, rfl, q⟩) fun _ _ _ q => ⟨rfl, q⟩) ha hb (nomark _)
theorem dt_is (ha : DE X W R a ta) (hb : DE X W R b tb) : DT X W R (.Compare a [.Is] [b] pos) (bOf (eOp dIs ta tb)) :=
  dt_cmp (opr_or op_isBl op_isN) (opl_is (fb := fun k => k) (fun i j _ _ q => ⟨i, j, rfl, rfl, q⟩) fun _ _ _ q => ⟨rfl, q⟩) ha hb (nomark _)
theorem dt_isnot (ha : DE X W R a ta) (hb : DE X W R b tb) : DT X W R (.Compare a [.IsNot] [b] pos) (bOf (eOp dIsNot ta tb)) :=
  dt_cmp (opr_or op_notBl op_notN) (opl_is (fb := fun k => !k) (fun i j _ _ q => ⟨i, j, rfl, rfl, q⟩) fun _ _ _ q => ⟨rfl, q⟩) ha hb (nomark _)

/-! x in xs, items of any data -/
def dInB (w : Vw) (ρ : List En) (x y : D) (Q : Bool → Prop) : Prop := (flat w ρ x).pl = true ∧ (flat w ρ y).pl = true ∧ SeqAt.shaped (flat w ρ x).toP = true ∧ SeqAt.shaped (flat w ρ y).toP = true ∧ match flat w ρ y with
  | .lst ys => Q ((toPs ys).any fun d => PyData.eqv d (flat w ρ x).toP)
  | _ => False
end
end DL

/-! Data layer: in, subscripts, len, slices, displays, what is walked, targets, changes in place. -/
namespace DL
open PySem L2
section
variable {X : Cx} {W : WX} {R : Rs} {a b c e tg : Expr} {es : List Expr} {pos : Pos} {ta tb te : TD R} {tl : TL R} {tc : TB R}
theorem opl_inB {r : R2} {fb : Bool → Bool} (hr : ∀ x y H Q d ds, Dp X.K H x d → Dp X.K H y (.list ds) → SeqAt.shaped d = true → SeqAt.shaped (.list ds) = true → Q (V.bl (fb (ds.any fun z => PyData.eqv z d))) H → r x y H Q) :
    OpL X.K R r (fun w ρ x y Q => dInB w ρ x y fun k => Q (.bl (fb k))) := fun z ρ m σ H F v u x y Q Qh I rx ry h0 q => by
  obtain ⟨p1, p2, s1, s2, hq⟩ := (show dInB (R.view m) ρ x y fun k => Q (.bl (fb k)) from h0)
  have d1 := I.dp rx p1
  have d2 := I.dp ry p2
  cases e : flat (R.view m) ρ y <;> rw [e] at hq <;> first | exact hq.elim | skip
  rename_i ys
  rw [e] at d2 s2
  exact hr _ _ _ _ _ _ d1 d2 s1 s2 (q _ H F _ I Mv.refl (.bl _) hq)
def dIn : D2 := fun w ρ x y Q => dInB w ρ x y fun k => Q (.bl k)
def dNotIn : D2 := fun w ρ x y Q => dInB w ρ x y fun k => Q (.bl (!k))
theorem de_in (hu : X.A.units + 65 < cLine) (ha : DE X W R a ta) (hb : DE X W R b tb) (hm : behindInMarks .In b = false := by rfl) : DE X W R (.Compare a [.In] [b] pos) (eOp dIn ta tb) :=
  de_cmp (op_inD hu) (opl_inB (fb := fun k => k) fun _ _ _ _ d ds h1 h2 h3 h4 q => ⟨d, ds, h1, h2, h3, h4, q⟩) ha hb hm
theorem de_notin (hu : X.A.units + 65 < cLine) (ha : DE X W R a ta) (hb : DE X W R b tb) (hm : behindInMarks .NotIn b = false := by rfl) : DE X W R (.Compare a [.NotIn] [b] pos) (eOp dNotIn ta tb) :=
  de_cmp (op_notInD hu) (opl_inB (fb := fun k => !k) fun _ _ _ _ d ds h1 h2 h3 h4 q => ⟨d, ds, h1, h2, h3, h4, q⟩) ha hb hm
theorem dt_in (hu : X.A.units + 65 < cLine) (ha : DE X W R a ta) (hb : DE X W R b tb) (hm : behindInMarks .In b = false := by rfl) : DT X W R (.Compare a [.In] [b] pos) (bOf (eOp dIn ta tb)) :=
  dt_cmp (op_inD hu) (opl_inB (fb := fun k => k) fun _ _ _ _ d ds h1 h2 h3 h4 q => ⟨d, ds, h1, h2, h3, h4, q⟩) ha hb hm
theorem dt_notin (hu : X.A.units + 65 < cLine) (ha : DE X W R a ta) (hb : DE X W R b tb) (hm : behindInMarks .NotIn b = false := by rfl) : DT X W R (.Compare a [.NotIn] [b] pos) (bOf (eOp dNotIn ta tb)) :=
  dt_cmp (op_notInD hu) (opl_inB (fb := fun k => !k) fun _ _ _ _ d ds h1 h2 h3 h4 q => ⟨d, ds, h1, h2, h3, h4, q⟩) ha hb hm

/-! ### x[i] -/
def dIx : D2 := fun w ρ x y Q => match y with
  | .int i => match x with
    | .tup xs => ∃ d, atI xs i = some d ∧ Q d
    | .str z => z.length ≤ sizeLine ∧ ∃ c, atI z.cps.toList i = some c ∧ Q (.str ⟨#[c]⟩)
    | x => ∃ xs d, itemsL w ρ x = some xs ∧ atI xs i = some d ∧ Q d
  | _ => False
theorem DrAll.atI {K : PySem.W.Frag} {F : Hp} {vs : List V} {ds : List D} {i : Int} {d : D} (r : DrAll K F vs ds) (h : L2.atI ds i = some d) : ∃ v, L2.atI vs i = some v ∧ Dr K F v d := by
  unfold L2.atI at h ⊢
  rw [r.length]
  cases e : ixN ds.length i with
  | none => rw [e] at h; cases h
  | some j =>
    rw [e] at h
    exact r.get h
theorem opl_ix : OpL X.K R (rIx X.K) dIx := fun z ρ m σ H F v u x y Q Qh I rx ry h0 q => by
  unfold dIx at h0
  cases y <;> first | exact h0.elim | skip
  rename_i i
  obtain rfl := ry.int
  have lst : (∃ xs d, itemsL (R.view m) ρ x = some xs ∧ L2.atI xs i = some d ∧ Q d) → rIx X.K v (.int i) H Qh := fun ⟨xs, d, e, h1, hq⟩ => by
    obtain ⟨p, vs, rfl, hl, rl⟩ := I.listV rx e
    obtain ⟨w, h2, r2⟩ := rl.atI h1
    exact .inl ⟨p, vs, i, w, rfl, rfl, hl, h2, q w H F d I Mv.refl r2 hq⟩
  cases x with
  | tup xs =>
    obtain ⟨d, h1, hq⟩ := h0
    obtain ⟨p, vs, rfl, ht, rt⟩ := rx.tup
    obtain ⟨w, h2, r2⟩ := rt.atI h1
    exact .inr (.inl ⟨p, vs, i, w, rfl, rfl, Same.sqT I.sub ht, h2, q w H F d I Mv.refl r2 hq⟩)
  | str s =>
    obtain ⟨hl, k, h1, hq⟩ := h0
    obtain rfl := rx.str
    exact .inr (.inr ⟨s, i, k, rfl, rfl, hl, h1, q _ H F _ I Mv.refl (.str _) hq⟩)
  | non => exact lst h0
  | bl _ => exact lst h0
  | int _ => exact lst h0
  | lst _ => exact lst h0
  | raw _ => exact lst h0
  | slot _ => exact lst h0
theorem de_at (ha : DE X W R a ta) (hb : DE X W R b tb) (hs : PlainIx b := by exact fun _ _ => rfl) : DE X W R (.Subscript a b pos) (eOp dIx ta tb) := de_ix ix_seq opl_ix ha hb hs

/-! ### calls of built-ins -/
abbrev DL1 := Vw → List En → List D → (D → Prop) → Prop
abbrev DLO := Vw → List En → List D → (List D → Prop) → Prop
variable (X R) in
def ClL (r : List V → Hp → VK → Prop) (o : DL1) : Prop := ∀ (z : Z0 R) (ρ : List En) (m : R.M) (σ : L2.St) (H F : Hp) (vs : List V) (ds : List D) (Q : D → Prop) (Qh : VK), Rel X.K R z ρ m σ H F → DvAll X.K σ F vs ds → o (R.view m) ρ ds Q →
  (∀ w H' F' d, Rel X.K R z ρ m σ H' F' → Mv R ρ m σ H F ρ m σ H' F' → Dr X.K F' w d → Q d → Qh w H') → r vs H Qh
variable (X R) in
def ClO (r : List V → Hp → VK → Prop) (o : DLO) : Prop := ∀ (z : Z0 R) (ρ : List En) (m : R.M) (σ : L2.St) (H F : Hp) (vs : List V) (ds : List D) (Q : List D → Prop) (Qh : VK), Rel X.K R z ρ m σ H F → DvAll X.K σ F vs ds → o (R.view m) ρ ds Q →
  (∀ a xs ds H', Rel X.K R z ρ m σ H' F → Mv R ρ m σ H F ρ m σ H' F → H a = none → Loose X.K R z ρ m σ H' F a → H' a = some (.lst xs) → DrAll X.K F xs ds → Q ds → Qh (.ref a) H') → r vs H Qh
def eCl (o : DL1) (t : TL R) : TD R := fun Z ρ m Q => t Z ρ m fun ds ρ1 m1 => o (R.view m1) ρ1 ds fun d => Q d ρ1 m1
def eClO (o : DLO) (t : TL R) : TL R := fun Z ρ m Q => t Z ρ m fun ds ρ1 m1 => o (R.view m1) ρ1 ds fun d => Q d ρ1 m1
theorem ClO.fz {r : List V → Hp → VK → Prop} {o : DLO} (L : ClO X R r o) : ClL X R r (fun w ρ ds Q => o w ρ ds fun xs => Q (.lst xs)) := fun z ρ m σ H F vs ds Q Qh I rs h0 q =>
  L z ρ m σ H F vs ds _ _ I rs h0 fun a xs ds H' J mv hN Lo hH rd hq => by
    obtain ⟨J2, s⟩ := J.freeze Lo hH
    exact q _ H' _ _ J2 (mv.freeze hN Lo.fF) (.lst (SqL.of upd_same) (rd.up s)) hq
theorem ClL.or {r r' : List V → Hp → VK → Prop} {o o' : DL1} (h : ClL X R r o) (h' : ClL X R r' o') : ClL X R (fun vs H Q => r vs H Q ∨ r' vs H Q) (fun w ρ ds Q => o w ρ ds Q ∨ o' w ρ ds Q) := fun z ρ m σ H F vs ds Q Qh I rs h0 q =>
  h0.elim (fun h0 => .inl (h z ρ m σ H F vs ds Q Qh I rs h0 q)) fun h0 => .inr (h' z ρ m σ H F vs ds Q Qh I rs h0 q)
section
variable {id T : String} {x : Str} {p : Pos} {r : List V → Hp → VK → Prop} {o : DL1} {oo : DLO}
theorem se_cl {t : TA} {n : Nat} (s1 : SA X.K W R t tl n) (L : ClL X R r o) : SE X.K W R (tCB r t) (eCl o tl) := fun z Z ρ m σ H F Q Qh hz I h q =>
  s1 z Z ρ m σ H F _ _ hz I h fun vs H1 F1 ρ1 m1 ds I1 f1 r1 _ h1 => L z ρ1 m1 σ H1 F1 vs ds _ _ I1 r1 h1 fun w H' F' d J s rd hq => q w H' F' ρ1 m1 d J (f1.trans s) rd.dv hq
theorem so_cl {t : TA} {n : Nat} (s1 : SA X.K W R t tl n) (L : ClO X R r oo) : SO X.K W R (tCB r t) (eClO oo tl) := fun z Z ρ m σ H F Q Qh hz I h q =>
  s1 z Z ρ m σ H F _ _ hz I h fun vs H1 F1 ρ1 m1 ds I1 f1 r1 _ h1 => L z ρ1 m1 σ H1 F1 vs ds _ _ I1 r1 h1 fun a xs ds H' J mv hN Lo hH rd hq => q a xs ds H' F1 ρ1 m1 J (f1.trans mv) (f1.free hN) Lo hH rd hq
theorem de_callB (hc : CallR X (.builtin id) r) (L : ClL X R r o) (hg : Gl X x) (hm : X.mg x = none) (hv : bootBuiltins x = some (.builtin id)) (ha : DA X W R (e :: es) tl) (hn : x ≠ "__name__" := by decide) (hdb : (x == ("__debug__" : Str)) = false := by decide)
    (he : starEach (e :: es) X.env = (false, eval e X.env) :: starEach es X.env := by rfl) (hpl : (backTo pos (starEach es X.env)).any (·.1) = false := by rfl) : DE X W R (.Call (.Name x p) (e :: es) [] pos) (eCl o tl) := by
  obtain ⟨_, p1, s1⟩ := ha
  exact ⟨_, pe_callB hc hg hm hv p1 hn hdb he hpl, se_cl s1 L⟩
theorem do_callB (hc : CallR X (.builtin id) r) (L : ClO X R r oo) (hg : Gl X x) (hm : X.mg x = none) (hv : bootBuiltins x = some (.builtin id)) (ha : DA X W R (e :: es) tl) (hn : x ≠ "__name__" := by decide) (hdb : (x == ("__debug__" : Str)) = false := by decide)
    (he : starEach (e :: es) X.env = (false, eval e X.env) :: starEach es X.env := by rfl) (hpl : (backTo pos (starEach es X.env)).any (·.1) = false := by rfl) : DO X W R (.Call (.Name x p) (e :: es) [] pos) (eClO oo tl) := by
  obtain ⟨_, p1, s1⟩ := ha
  exact ⟨_, pe_callB hc hg hm hv p1 hn hdb he hpl, so_cl s1 L⟩
theorem de_callTy (hc : CallR X (.type T) r) (L : ClL X R r o) (hg : Gl X x) (hm : X.mg x = none) (hv : bootBuiltins x = some (.type T)) (ha : DA X W R (e :: es) tl) (hn : x ≠ "__name__" := by decide) (hdb : (x == ("__debug__" : Str)) = false := by decide)
    (he : starEach (e :: es) X.env = (false, eval e X.env) :: starEach es X.env := by rfl) (hpl : (backTo pos (starEach es X.env)).any (·.1) = false := by rfl) : DE X W R (.Call (.Name x p) (e :: es) [] pos) (eCl o tl) := by
  obtain ⟨_, p1, s1⟩ := ha
  exact ⟨_, pe_callTy hc hg hm hv p1 hn hdb he hpl, se_cl s1 L⟩
theorem do_callTy (hc : CallR X (.type T) r) (L : ClO X R r oo) (hg : Gl X x) (hm : X.mg x = none) (hv : bootBuiltins x = some (.type T)) (ha : DA X W R (e :: es) tl) (hn : x ≠ "__name__" := by decide) (hdb : (x == ("__debug__" : Str)) = false := by decide)
    (he : starEach (e :: es) X.env = (false, eval e X.env) :: starEach es X.env := by rfl) (hpl : (backTo pos (starEach es X.env)).any (·.1) = false := by rfl) : DO X W R (.Call (.Name x p) (e :: es) [] pos) (eClO oo tl) := by
  obtain ⟨_, p1, s1⟩ := ha
  exact ⟨_, pe_callTy hc hg hm hv p1 hn hdb he hpl, so_cl s1 L⟩
end
theorem DvAll.one {K : PySem.W.Frag} {σ : L2.St} {F : Hp} {vs : List V} {d : D} (h : DvAll K σ F vs [d]) : ∃ v, vs = [v] ∧ Dv K σ F v d := by
  cases h with
  | cons a t => cases t; exact ⟨_, rfl, a⟩
theorem DvAll.two {K : PySem.W.Frag} {σ : L2.St} {F : Hp} {vs : List V} {d d' : D} (h : DvAll K σ F vs [d, d']) : ∃ v v', vs = [v, v'] ∧ Dv K σ F v d ∧ Dv K σ F v' d' := by
  cases h with
  | cons a t =>
    obtain ⟨v', rfl, b⟩ := t.one
    exact ⟨_, _, rfl, a, b⟩
/-- len -/
def dLen : DL1 := fun w ρ ds Q => match ds with
  | [.str z] => z.length ≤ sizeLine ∧ Q (.int z.length)
  | [.tup xs] => Q (.int xs.length)
  | [d] => match itemsL w ρ d with
    | some xs => Q (.int xs.length)
    | none => False
  | _ => False
theorem cl_len : ClL X R (fun xs H Q => ∃ x n, xs = [x] ∧ LenV X.K x H n ∧ Q (.int n) H) dLen := fun z ρ m σ H F vs ds Q Qh I rs h0 q => by
  unfold dLen at h0
  split at h0
  · obtain ⟨v, rfl, r⟩ := rs.one
    obtain rfl := r.str
    exact ⟨_, _, rfl, ⟨h0.1, rfl⟩, q _ H F _ I Mv.refl (.int _) h0.2⟩
  · obtain ⟨v, rfl, r⟩ := rs.one
    obtain ⟨a, xs, rfl, ht, ra⟩ := r.tup
    exact ⟨_, _, rfl, .inr ⟨xs, Same.sqT I.sub ht, rfl⟩, by rw [ra.length]; exact q _ H F _ I Mv.refl (.int _) h0⟩
  · rename_i d _ _
    obtain ⟨v, rfl, r⟩ := rs.one
    cases e : itemsL (R.view m) ρ d with
    | none => rw [e] at h0; exact h0.elim
    | some xs =>
      rw [e] at h0
      obtain ⟨a, ys, rfl, hl, ra⟩ := I.listV r e
      exact ⟨_, _, rfl, .inl ⟨ys, hl, rfl⟩, by rw [ra.length]; exact q _ H F _ I Mv.refl (.int _) h0⟩
  · exact h0.elim
theorem de_len {p : Pos} (hg : Gl X "len") (hm : X.mg "len" = none) (ha : DA X W R [e] tl) (he : starEach [e] X.env = (false, eval e X.env) :: starEach [] X.env := by rfl) (hpl : (backTo pos (starEach [] X.env)).any (·.1) = false := by rfl) : DE X W R (.Call (.Name "len" p) [e] [] pos) (eCl dLen tl) :=
  de_callB call_len cl_len hg hm PySem.boot_len ha (he := he) (hpl := hpl)
/-- list(xs) -/
def dListO : DLO := fun w ρ ds Q => match ds with
  | [.tup xs] => Q xs
  | [d] => match itemsL w ρ d with
    | some xs => Q xs
    | none => False
  | _ => False
theorem cl_list : ClO X R (fun xs H Q => ∃ p ys, xs = [.ref p] ∧ (SqL X.K H p ys ∨ SqT X.K H p ys) ∧ ∀ l, H l = none → Q (.ref l) (upd H l (.lst ys))) dListO := fun z ρ m σ H F vs ds Q Qh I rs h0 q => by
  unfold dListO at h0
  split at h0
  · obtain ⟨v, rfl, r⟩ := rs.one
    obtain ⟨a, xs, rfl, ht, ra⟩ := r.tup
    exact ⟨_, _, rfl, .inr (Same.sqT I.sub ht), fun l hl => q l _ _ _ (I.alloc hl) (Mv.alloc hl) hl (I.loose_new hl) upd_same ra h0⟩
  · rename_i d _
    obtain ⟨v, rfl, r⟩ := rs.one
    cases e : itemsL (R.view m) ρ d with
    | none => rw [e] at h0; exact h0.elim
    | some xs =>
      rw [e] at h0
      obtain ⟨a, ys, rfl, hl, ra⟩ := I.listV r e
      exact ⟨_, _, rfl, .inl hl, fun l hl => q l _ _ _ (I.alloc hl) (Mv.alloc hl) hl (I.loose_new hl) upd_same ra h0⟩
  · exact h0.elim
theorem do_list {p : Pos} (hg : Gl X "list") (hm : X.mg "list" = none) (ha : DA X W R [e] tl) (he : starEach [e] X.env = (false, eval e X.env) :: starEach [] X.env := by rfl) (hpl : (backTo pos (starEach [] X.env)).any (·.1) = false := by rfl) : DO X W R (.Call (.Name "list" p) [e] [] pos) (eClO dListO tl) :=
  do_callTy call_list_of cl_list hg hm (by decide +kernel) ha (he := he) (hpl := hpl)

/-! ### slices -/
abbrev TP (R : Rs) := ZC R → List En → R.M → (Option Int → List En → R.M → Prop) → Prop
def pNo : TP R := fun _ ρ m Q => Q none ρ m
def pSome (t : TD R) : TP R := fun Z ρ m Q => t Z ρ m fun d ρ1 m1 => match d with
  | .int i => Q (some i) ρ1 m1
  | _ => False
variable (X W R) in
structure DP (e : Option Expr) (t : TP R) : Prop where
  ex : ∃ to : TO, PO X e to ∧ ∀ (z : Z0 R) (Z : ZC R) (ρ : List En) (m : R.M) (σ : L2.St) (H F : Hp) (Q : Option Int → List En → R.M → Prop) (Qh : Option Int → Hp → Prop), Zok X.K R z W Z → Rel X.K R z ρ m σ H F → t Z ρ m Q →
    (∀ i H' F' ρ' m', Rel X.K R z ρ' m' σ H' F' → Mv R ρ m σ H F ρ' m' σ H' F' → Q i ρ' m' → Qh i H') → to σ H Qh
theorem dp_none : DP X W R none pNo := ⟨_, po_none, fun z Z ρ m σ H F Q Qh hz I h q => q none H F ρ m I Mv.refl h⟩
theorem dp_some (h : DE X W R e te) : DP X W R (some e) (pSome te) := by
  obtain ⟨_, p1, s1⟩ := h
  refine ⟨_, po_some p1, fun z Z ρ m σ H F Q Qh hz I h q => ?_⟩
  refine s1 z Z ρ m σ H F _ _ hz I h fun v H' F' ρ' m' d I' s r hq => ?_
  cases d <;> first | exact hq.elim | skip
  exact ⟨_, r.int, q _ H' F' ρ' m' I' s hq⟩
def cutD (xs : List D) (lo hi : Option Int) : List D := (xs.drop (HT.sIx xs.length 0 lo)).take (HT.sIx xs.length xs.length hi - HT.sIx xs.length 0 lo)
theorem DrAll.cut {K : PySem.W.Frag} {F : Hp} {vs : List V} {ds : List D} (r : DrAll K F vs ds) (lo hi : Option Int) : DrAll K F (cutV vs lo hi) (cutD ds lo hi) := by
  unfold cutV cutD
  rw [r.length]
  exact (r.drop _).take _
def eSlO (t : TD R) (lo hi : TP R) : TL R := fun Z ρ m Q => t Z ρ m fun d ρ1 m1 => lo Z ρ1 m1 fun i ρ2 m2 => hi Z ρ2 m2 fun j ρ3 m3 => match itemsL (R.view m3) ρ3 d with
  | some xs => Q (cutD xs i j) ρ3 m3
  | none => False
/-- of a text, of a tuple, of a list -/
def eSl (t : TD R) (lo hi : TP R) : TD R := fun Z ρ m Q => t Z ρ m fun d ρ1 m1 => lo Z ρ1 m1 fun i ρ2 m2 => hi Z ρ2 m2 fun j ρ3 m3 => match d with
  | .str z => z.length ≤ sizeLine ∧ Q (.str (cutS z i j)) ρ3 m3
  | .tup xs => Q (.tup (cutD xs i j)) ρ3 m3
  | d => match itemsL (R.view m3) ρ3 d with
    | some xs => Q (.lst (cutD xs i j)) ρ3 m3
    | none => False
variable {lo hi : Option Expr} {t1 t2 : TP R} {p2 : Pos}
theorem do_slice (he : DE X W R e te) (hl : DP X W R lo t1) (hh : DP X W R hi t2) : DO X W R (.Subscript e (.Slice lo hi none p2) pos) (eSlO te t1 t2) := by
  obtain ⟨_, p0, s0⟩ := he
  obtain ⟨_, p1, s1⟩ := hl
  obtain ⟨_, p2, s2⟩ := hh
  refine ⟨_, pe_slice sl_list p0 p1 p2, fun z Z ρ m σ H F Q Qh hz I h q => ?_⟩
  refine s0 z Z ρ m σ H F _ _ hz I h fun v H1 F1 ρ1 m1 d I1 f1 r1 h1 => s1 z Z ρ1 m1 σ H1 F1 _ _ hz I1 h1 fun i H2 F2 ρ2 m2 I2 f2 h2 => s2 z Z ρ2 m2 σ H2 F2 _ _ hz I2 h2 fun j H3 F3 ρ3 m3 I3 f3 h3 => ?_
  cases q3 : itemsL (R.view m3) ρ3 d with
  | none => rw [q3] at h3; exact h3.elim
  | some xs =>
    rw [q3] at h3
    obtain ⟨a, vs, rfl, hl, ra⟩ := I3.listV ((r1.up f2.same).up f3.same) q3
    exact ⟨a, vs, rfl, hl, fun p hp => q p _ _ _ F3 ρ3 m3 (I3.alloc hp) (((f1.trans f2).trans f3).trans (Mv.alloc hp)) (((f1.trans f2).trans f3).free hp) (I3.loose_new hp) upd_same (ra.cut i j) h3⟩
def rSlU (K : PySem.W.Frag) : V → Option Int → Option Int → Hp → VK → Prop := fun x lo hi H Q => rSlS x lo hi H Q ∨ rSlA K x lo hi H Q ∨ rSlL K x lo hi H Q
theorem cut_all {xs : List D} {lo hi : Option Int} (h : HT.sIx xs.length 0 lo = 0 ∧ HT.sIx xs.length xs.length hi = xs.length) : cutD xs lo hi = xs := by
  unfold cutD
  rw [h.1, h.2]
  simp
theorem de_slice (he : DE X W R e te) (hl : DP X W R lo t1) (hh : DP X W R hi t2) : DE X W R (.Subscript e (.Slice lo hi none p2) pos) (eSl te t1 t2) := by
  obtain ⟨_, p0, s0⟩ := he
  obtain ⟨_, p1, s1⟩ := hl
  obtain ⟨_, p2, s2⟩ := hh
  refine ⟨_, pe_slice (sl_str.or (sl_tupA.or sl_list)) p0 p1 p2, fun z Z ρ m σ H F Q Qh hz I h q => ?_⟩
  refine s0 z Z ρ m σ H F _ _ hz I h fun v H1 F1 ρ1 m1 d I1 f1 r1 h1 => s1 z Z ρ1 m1 σ H1 F1 _ _ hz I1 h1 fun i H2 F2 ρ2 m2 I2 f2 h2 => s2 z Z ρ2 m2 σ H2 F2 _ _ hz I2 h2 fun j H3 F3 ρ3 m3 I3 f3 h3 => ?_
  have r3 := (r1.up f2.same).up f3.same
  have f := (f1.trans f2).trans f3
  have lst : (match itemsL (R.view m3) ρ3 d with
      | some xs => Q (.lst (cutD xs i j)) ρ3 m3
      | none => False) → rSlU X.K v i j H3 Qh := fun h3 => by
    cases q3 : itemsL (R.view m3) ρ3 d with
    | none => rw [q3] at h3; exact h3.elim
    | some xs =>
      rw [q3] at h3
      obtain ⟨a, vs, rfl, hl, ra⟩ := I3.listV r3 q3
      refine .inr (.inr ⟨a, vs, rfl, hl, fun p hp => ?_⟩)
      obtain ⟨J2, s⟩ := (I3.alloc (o := .lst (cutV vs i j)) hp).freeze (I3.loose_new hp) upd_same
      exact q _ _ _ ρ3 m3 _ J2 (f.trans ((Mv.alloc hp).freeze hp (I3.sub.free hp))) (Dr.dv (.lst (SqL.of upd_same) ((ra.cut i j).up s))) h3
  cases d with
  | str s =>
    obtain rfl := r3.str
    exact .inl ⟨s, rfl, h3.1, q _ H3 F3 ρ3 m3 _ I3 f (Dr.dv (.str _)) h3.2⟩
  | tup xs =>
    obtain ⟨a, vs, rfl, ht, ra⟩ := r3.tup
    refine .inr (.inl ⟨a, vs, rfl, Same.sqT I3.sub ht, fun hw => ?_, fun hw p hp => ?_⟩)
    · rw [ra.length] at hw
      have h3 : Q (.tup (cutD xs i j)) ρ3 m3 := h3
      rw [cut_all hw] at h3
      exact q _ H3 F3 ρ3 m3 _ I3 f r3 h3
    · obtain ⟨J2, s⟩ := (I3.alloc (o := .tup (cutV vs i j)) hp).freeze (I3.loose_new hp) upd_same
      exact q _ _ _ ρ3 m3 _ J2 (f.trans ((Mv.alloc hp).freeze hp (I3.sub.free hp))) (Dr.dv (.tup (SqT.of upd_same) ((ra.cut i j).up s))) h3
  | non => exact lst h3
  | bl _ => exact lst h3
  | int _ => exact lst h3
  | lst _ => exact lst h3
  | raw _ => exact lst h3
  | slot _ => exact lst h3
/-- xs[::-1] -/
def eRevO (t : TD R) : TL R := fun Z ρ m Q => t Z ρ m fun d ρ1 m1 => match itemsL (R.view m1) ρ1 d with
  | some xs => Q xs.reverse ρ1 m1
  | none => False
theorem do_rev {k : Nat} {p1 p3 p4 : Pos} (he : DE X W R e te) : DO X W R (.Subscript e (.Slice none none (some (.UnaryOp .USub (.Constant (.int 1) k p1) p3)) p4) pos) (eRevO te) := by
  obtain ⟨_, p0, s0⟩ := he
  refine ⟨_, pe_revL p0, fun z Z ρ m σ H F Q Qh hz I h q => ?_⟩
  refine s0 z Z ρ m σ H F _ _ hz I h fun v H1 F1 ρ1 m1 d I1 f1 r1 h1 => ?_
  cases q3 : itemsL (R.view m1) ρ1 d with
  | none => rw [q3] at h1; exact h1.elim
  | some xs =>
    rw [q3] at h1
    obtain ⟨a, vs, rfl, hl, ra⟩ := I1.listV r1 q3
    exact ⟨a, vs, rfl, hl, fun p hp => q p _ _ _ F1 ρ1 m1 (I1.alloc hp) (f1.trans (Mv.alloc hp)) (f1.free hp) (I1.loose_new hp) upd_same ra.reverse h1⟩

/-! ### displays -/
def eLst (t : TL R) : TL R := fun Z ρ m Q => t Z ρ m fun ds ρ1 m1 => Firms ds ∧ ds.length ≤ sizeLine ∧ Q ds ρ1 m1
def eTup (t : TL R) : TD R := fun Z ρ m Q => t Z ρ m fun ds ρ1 m1 => Firms ds ∧ ds.length ≤ sizeLine ∧ Q (.tup ds) ρ1 m1
theorem do_lst (h : DA X W R es tl) : DO X W R (.List es pos) (eLst tl) := by
  obtain ⟨_, p1, s1⟩ := h
  refine ⟨_, pe_lst p1, fun z Z ρ m σ H F Q Qh hz I h q => ?_⟩
  refine s1 z Z ρ m σ H F _ _ hz I h fun vs H1 F1 ρ1 m1 ds I1 f1 r1 _ h1 => ?_
  have r := r1.dr h1.1
  exact ⟨by rw [r.length]; exact h1.2.1, fun p hp => q p _ _ _ F1 ρ1 m1 (I1.alloc hp) (f1.trans (Mv.alloc hp)) (f1.free hp) (I1.loose_new hp) upd_same r h1.2.2⟩
theorem de_tup {x1} (h : DA X W R es tl) : DE X W R (.Tuple es x1 pos) (eTup tl) := by
  obtain ⟨_, p1, s1⟩ := h
  refine ⟨_, pe_tup p1, fun z Z ρ m σ H F Q Qh hz I h q => ?_⟩
  refine s1 z Z ρ m σ H F _ _ hz I h fun vs H1 F1 ρ1 m1 ds I1 f1 r1 _ h1 => ?_
  have r := r1.dr h1.1
  refine ⟨by rw [r.length]; exact h1.2.1, fun p hp => ?_⟩
  obtain ⟨J2, s⟩ := (I1.alloc (o := .tup vs) hp).freeze (I1.loose_new hp) upd_same
  exact q _ _ _ ρ1 m1 _ J2 (f1.trans ((Mv.alloc hp).freeze hp (I1.sub.free hp))) (Dr.dv (.tup (SqT.of upd_same) (r.up s))) h1.2.2

/-! ### what is walked -/
/-- data that is a list -/
def iLst (t : TD R) : TL R := fun Z ρ m Q => t Z ρ m fun d ρ1 m1 => match d with
  | .lst xs => Q xs ρ1 m1
  | _ => False
theorem walks_list {K : PySem.W.Frag} {z : Z0 R} {F : Hp} {a : Addr} {xs : List V} {ds : List D} (hl : SqL K F a xs) (r : DrAll K F xs ds) : Walks K R z F (Itl K a) ds where
  go := fun i ρ m σ H F' I s hi => by
    have hx : i < xs.length := by rw [r.length]; exact hi
    exact ⟨xs, xs[i], I.sub.seq (s.seq hl), List.getElem?_eq_getElem hx⟩
  yld := fun i ρ m σ H F' x H' d I s hd y => by
    obtain ⟨e, y⟩ := y
    subst e
    have h := y xs (I.sub.seq (s.seq hl))
    obtain ⟨v, h1, h2⟩ := r.get hd
    rw [h] at h1
    cases h1
    exact ⟨F', I, Mv.refl, h2.up s⟩
  stop := fun i ρ m σ H F' I s hi => ⟨xs, I.sub.seq (s.seq hl), by rw [r.length]; exact hi⟩
theorem di_list (h : DE X W R e te) : DI X W R tg e (iLst te) := by
  obtain ⟨_, p1, s1⟩ := h
  refine ⟨_, pi_list p1, fun z Z ρ m σ H F Q Rh hz I h q => ?_⟩
  refine s1 z Z ρ m σ H F _ _ hz I h fun v H1 F1 ρ1 m1 d I1 f1 r1 h1 => ?_
  cases d <;> first | exact h1.elim | skip
  rename_i ds
  obtain ⟨a, xs, rfl, hl, ra⟩ := r1.lst
  exact ⟨a, rfl, ⟨xs, I1.sub.seq hl⟩, q _ H1 F1 ρ1 m1 ds I1 f1 (walks_list hl ra) h1⟩
def iTupD (t : TD R) : TL R := fun Z ρ m Q => t Z ρ m fun d ρ1 m1 => match d with
  | .tup xs => Q xs ρ1 m1
  | _ => False
theorem di_tup (h : DE X W R e te) : DI X W R tg e (iTupD te) := by
  obtain ⟨_, p1, s1⟩ := h
  refine ⟨_, pi_tup p1, fun z Z ρ m σ H F Q Rh hz I h q => ?_⟩
  refine s1 z Z ρ m σ H F _ _ hz I h fun v H1 F1 ρ1 m1 d I1 f1 r1 h1 => ?_
  cases d <;> first | exact h1.elim | skip
  rename_i ds
  obtain ⟨a, xs, rfl, ht, ra⟩ := r1.tup
  refine ⟨a, rfl, ⟨xs, Same.sqT I1.sub ht⟩, q _ H1 F1 ρ1 m1 ds I1 f1 ⟨fun i ρ m σ H F' I s hi => ?_, fun i ρ m σ H F' x H' d I s hd y => ?_, fun i ρ m σ H F' I s hi => ?_⟩ h1⟩
  · have hx : i < xs.length := by rw [ra.length]; exact hi
    exact ⟨xs, xs[i], Same.sqT I.sub (Same.sqT s ht), List.getElem?_eq_getElem hx⟩
  · obtain ⟨e, y⟩ := y
    subst e
    have h := y xs (Same.sqT I.sub (Same.sqT s ht))
    obtain ⟨v, h1, h2⟩ := ra.get hd
    rw [h] at h1
    cases h1
    exact ⟨F', I, Mv.refl, h2.up s⟩
  · exact ⟨xs, Same.sqT I.sub (Same.sqT s ht), by rw [ra.length]; exact hi⟩
/-- lo, lo + c, ..: n numbers -/
def numsD (lo c : Int) (n : Nat) : List D := (List.range n).map fun (k : Nat) => .int (lo + (k : Int) * c)
theorem walks_nums {K : PySem.W.Frag} {z : Z0 R} {F : Hp} {J : It} {lo c : Int} {n : Nat} (h1 : ∀ i H, i < n → J.go i H) (h2 : ∀ i H x H', J.yld i H x H' → H' = H ∧ x = .int (lo + (i : Nat) * c)) (h3 : ∀ i H, n ≤ i → J.stop i H) : Walks K R z F J (numsD lo c n) where
  go := fun i ρ m σ H F' I s hi => h1 i H (by simpa [numsD] using hi)
  yld := fun i ρ m σ H F' x H' d I s hd y => by
    obtain ⟨e1, e2⟩ := h2 i H x H' y
    subst e1 e2
    have hn : i < n := by simpa [numsD] using lt_of_get hd
    have e : d = .int (lo + (i : Int) * c) := by simpa [numsD, hn] using hd.symm
    subst e
    exact ⟨F', I, Mv.refl, .int _⟩
  stop := fun i ρ m σ H F' I s hi => h3 i H (by simpa [numsD] using hi)
def small62 (i : Int) : Prop := -(2 ^ 62) ≤ i ∧ i < 2 ^ 62
def iRange1 (t : TL R) : TL R := fun Z ρ m Q => t Z ρ m fun ds ρ1 m1 => match ds with
  | [.int j] => small62 j ∧ Q (numsD 0 1 j.toNat) ρ1 m1
  | _ => False
def iRange2 (t : TL R) : TL R := fun Z ρ m Q => t Z ρ m fun ds ρ1 m1 => match ds with
  | [.int i, .int j] => small62 i ∧ small62 j ∧ Q (numsD i 1 (j - i).toNat) ρ1 m1
  | _ => False
theorem di_range1 {p : Pos} (hg : Gl X "range") (hm : X.mg "range" = none) (ha : DA X W R [a] tl) (hs : starEach [a] X.env = [(false, eval a X.env)] := by rfl) : DI X W R tg (.Call (.Name "range" p) [a] [] pos) (iRange1 tl) := by
  obtain ⟨_, p1, s1⟩ := ha
  refine ⟨_, pi_range1 hg hm p1 hs, fun z Z ρ m σ H F Q Rh hz I h q => ?_⟩
  refine s1 z Z ρ m σ H F _ _ hz I h fun vs H1 F1 ρ1 m1 ds I1 f1 r1 _ h1 => ?_
  split at h1
  · rename_i j
    obtain ⟨v, rfl, r⟩ := r1.one
    obtain rfl := r.int
    exact ⟨j, rfl, h1.1.1, h1.1.2, q _ H1 F1 ρ1 m1 _ I1 f1 (walks_nums (fun i H hi => hi) (fun i H x H' y => ⟨y.1, by rw [y.2]; simp⟩) fun i H hi => hi) h1.2⟩
  · exact h1.elim
theorem di_range2 {p : Pos} (hg : Gl X "range") (hm : X.mg "range" = none) (ha : DA X W R [a, b] tl) (hs : starEach [a, b] X.env = [(false, eval a X.env), (false, eval b X.env)] := by rfl) (hs2 : starEach [b] X.env = [(false, eval b X.env)] := by rfl) :
    DI X W R tg (.Call (.Name "range" p) [a, b] [] pos) (iRange2 tl) := by
  obtain ⟨_, p1, s1⟩ := ha
  refine ⟨_, pi_range2 hg hm p1 hs hs2, fun z Z ρ m σ H F Q Rh hz I h q => ?_⟩
  refine s1 z Z ρ m σ H F _ _ hz I h fun vs H1 F1 ρ1 m1 ds I1 f1 r1 _ h1 => ?_
  split at h1
  · rename_i i j
    obtain ⟨v, v', rfl, r, r'⟩ := r1.two
    obtain rfl := r.int
    obtain rfl := r'.int
    exact ⟨i, j, rfl, ⟨h1.1.1, h1.1.2, h1.2.1.1, h1.2.1.2⟩, q _ H1 F1 ρ1 m1 _ I1 f1 (walks_nums (fun i H hi => hi) (fun i H x H' y => ⟨y.1, by rw [y.2]; simp⟩) fun i H hi => hi) h1.2.2⟩
  · exact h1.elim
/-- pairs from two lists -/
def iZipD (t : TL R) : TL R := fun Z ρ m Q => t Z ρ m fun ds ρ1 m1 => match ds with
  | [.lst xs, .lst ys] => Q ((xs.zip ys).map fun p => .tup [p.1, p.2]) ρ1 m1
  | _ => False
theorem new_tup {K : PySem.W.Frag} {z : Z0 R} {ρ : List En} {m : R.M} {σ : L2.St} {H F : Hp} {T : Addr} {vs : List V} {ds : List D} (I : Rel K R z ρ m σ H F) (hT : H T = none) (r : DrAll K F vs ds) :
    ∃ F'', Rel K R z ρ m σ (upd H T (.tup vs)) F'' ∧ Mv R ρ m σ H F ρ m σ (upd H T (.tup vs)) F'' ∧ Dr K F'' (.ref T) (.tup ds) := by
  obtain ⟨J2, s⟩ := (I.alloc (o := .tup vs) hT).freeze (I.loose_new hT) upd_same
  exact ⟨_, J2, (Mv.alloc hT).freeze hT (I.sub.free hT), .tup (SqT.of upd_same) (r.up s)⟩
theorem di_zip {p tpos : Pos} {elts : List Expr} {kk : Nat} (hg : Gl X "zip") (hm : X.mg "zip" = none) (ha : DA X W R [a, b] tl)
    (hs : starEach [a, b] X.env = (false, eval a X.env) :: starEach [b] X.env := by rfl) (hpl : (backTo pos (starEach [b] X.env)).any (·.1) = false := by rfl) : DI X W R (.Tuple elts kk tpos) (.Call (.Name "zip" p) [a, b] [] pos) (iZipD tl) := by
  obtain ⟨_, p1, s1⟩ := ha
  refine ⟨_, pi_zip hg hm p1 hs hpl, fun z Z ρ m σ H F Q Rh hz I h q => ?_⟩
  refine s1 z Z ρ m σ H F _ _ hz I h fun vs H1 F1 ρ1 m1 ds I1 f1 r1 _ h1 => ?_
  split at h1
  · rename_i xs ys
    obtain ⟨v, v', rfl, r, r'⟩ := r1.two
    obtain ⟨a, us, rfl, hl, ra⟩ := r.lst
    obtain ⟨b, ws, rfl, hb, rb⟩ := r'.lst
    refine ⟨a, b, us, ws, rfl, I1.sub.seq hl, I1.sub.seq hb, q _ H1 F1 ρ1 m1 _ I1 f1 ⟨fun i ρ m σ H F' I s hi => ?_, fun i ρ m σ H F' x H' d I s hd y => ?_, fun i ρ m σ H F' I s hi => ?_⟩ h1⟩
    · have hi' : i < xs.length ∧ i < ys.length := by
        have := hi
        simp only [List.length_map, List.length_zip] at this
        omega
      have e1 : i < us.length := by rw [ra.length]; exact hi'.1
      have e2 : i < ws.length := by rw [rb.length]; exact hi'.2
      exact ⟨us, ws, us[i], ws[i], I.sub.seq (s.seq hl), I.sub.seq (s.seq hb), List.getElem?_eq_getElem e1, List.getElem?_eq_getElem e2⟩
    · obtain ⟨T, x1, y1, rfl, hT, rfl, g1, g2⟩ := y
      have k1 := g1 us (I.sub.seq (s.seq hl))
      have k2 := g2 ws (I.sub.seq (s.seq hb))
      obtain ⟨d1, e1, q1⟩ := ra.getV k1
      obtain ⟨d2, e2, q2⟩ := rb.getV k2
      have ez : (xs.zip ys)[i]? = some (d1, d2) := List.getElem?_zip_eq_some.mpr ⟨e1, e2⟩
      rw [List.getElem?_map, ez] at hd
      cases hd
      exact new_tup I hT (.cons (q1.up s) (.cons (q2.up s) .nil))
    · have hi' : xs.length ≤ i ∨ ys.length ≤ i := by
        have := hi
        simp only [List.length_map, List.length_zip] at this
        omega
      exact ⟨us, ws, I.sub.seq (s.seq hl), I.sub.seq (s.seq hb), by rw [ra.length, rb.length]; exact hi'⟩
  · exact h1.elim
/-- (0, x), (1, y), .. -/
def iEnumD (t : TL R) : TL R := fun Z ρ m Q => t Z ρ m fun ds ρ1 m1 => match ds with
  | [.lst xs] => Q (xs.zipIdx.map fun p => .tup [.int (p.2 : Nat), p.1]) ρ1 m1
  | _ => False
theorem di_enum {p tpos : Pos} {elts : List Expr} {kk : Nat} (hg : Gl X "enumerate") (hm : X.mg "enumerate" = none) (ha : DA X W R [a] tl) (hs : starEach [a] X.env = [(false, eval a X.env)] := by rfl) :
    DI X W R (.Tuple elts kk tpos) (.Call (.Name "enumerate" p) [a] [] pos) (iEnumD tl) := by
  obtain ⟨_, p1, s1⟩ := ha
  refine ⟨_, pi_enum hg hm p1 hs, fun z Z ρ m σ H F Q Rh hz I h q => ?_⟩
  refine s1 z Z ρ m σ H F _ _ hz I h fun vs H1 F1 ρ1 m1 ds I1 f1 r1 _ h1 => ?_
  split at h1
  · rename_i xs
    obtain ⟨v, rfl, r⟩ := r1.one
    obtain ⟨a, us, rfl, hl, ra⟩ := r.lst
    refine ⟨a, us, rfl, I1.sub.seq hl, q _ H1 F1 ρ1 m1 _ I1 f1 ⟨fun i ρ m σ H F' I s hi => ?_, fun i ρ m σ H F' x H' d I s hd y => ?_, fun i ρ m σ H F' I s hi => ?_⟩ h1⟩
    · have hi' : i < xs.length := by simpa using hi
      have e1 : i < us.length := by rw [ra.length]; exact hi'
      exact ⟨us, us[i], I.sub.seq (s.seq hl), List.getElem?_eq_getElem e1⟩
    · obtain ⟨T, x1, rfl, hT, rfl, g1⟩ := y
      obtain ⟨d1, e1, q1⟩ := ra.getV (g1 us (I.sub.seq (s.seq hl)))
      have ez : xs.zipIdx[i]? = some (d1, i) := by simp [List.getElem?_zipIdx, e1]
      rw [List.getElem?_map, ez] at hd
      cases hd
      exact new_tup I hT (.cons (.int _) (.cons (q1.up s) .nil))
    · exact ⟨us, I.sub.seq (s.seq hl), by rw [ra.length]; simpa using hi⟩
  · exact h1.elim
/-- reversed(list) -/
def iRevD (t : TL R) : TL R := fun Z ρ m Q => t Z ρ m fun ds ρ1 m1 => match ds with
  | [.lst xs] => Q xs.reverse ρ1 m1
  | _ => False
theorem di_rev {p : Pos} (hg : Gl X "reversed") (hm : X.mg "reversed" = none) (ha : DA X W R [a] tl) (hs : starEach [a] X.env = [(false, eval a X.env)] := by rfl) : DI X W R tg (.Call (.Name "reversed" p) [a] [] pos) (iRevD tl) := by
  obtain ⟨_, p1, s1⟩ := ha
  refine ⟨_, pi_reversed hg hm p1 hs, fun z Z ρ m σ H F Q Rh hz I h q => ?_⟩
  refine s1 z Z ρ m σ H F _ _ hz I h fun vs H1 F1 ρ1 m1 ds I1 f1 r1 _ h1 => ?_
  split at h1
  · rename_i xs
    obtain ⟨v, rfl, r⟩ := r1.one
    obtain ⟨a, us, rfl, hl, ra⟩ := r.lst
    have hlen := ra.length
    refine ⟨a, us, rfl, I1.sub.seq hl, q _ H1 F1 ρ1 m1 _ I1 f1 ⟨fun i ρ m σ H F' I s hi => ?_, fun i ρ m σ H F' x H' d I s hd y => ?_, fun i ρ m σ H F' I s hi => ?_⟩ h1⟩
    · have hi' : i < us.length := by rw [hlen]; simpa using hi
      have e1 : us.length - 1 - i < us.length := by omega
      exact ⟨hi', us, us[us.length - 1 - i], I.sub.seq (s.seq hl), List.getElem?_eq_getElem e1⟩
    · obtain ⟨rfl, g1⟩ := y
      have hi : i < xs.length := by simpa using lt_of_get hd
      obtain ⟨d1, e1, q1⟩ := ra.getV (g1 us (I.sub.seq (s.seq hl)))
      rw [List.getElem?_reverse hi] at hd
      rw [hlen, hd] at e1
      cases e1
      exact ⟨F', I, Mv.refl, q1.up s⟩
    · show us.length ≤ i
      rw [hlen]
      simpa using hi
  · exact h1.elim

/-! ### targets -/
def tName (i : Nat) : TGd R := fun d ρ m Q => Q (ρ.set i (.dat d)) m
theorem dg_name {i : Nat} {x : Str} (hN : X.N.Nodup) (hi : X.N[i]? = some x) (hx : Loc X.env.scope x) (hf : X.fn x = true ∨ X.env.scope.names.lookup x = some .local := by first | exact .inl rfl | exact .inr rfl | assumption) : DG X R (.Name x pos) (tName i) [i] :=
  ⟨_, pg_name hN hi hx hf, fun z ρ m σ H F v d Q Qh I r h q => q _ m _ H F (I.setDat i r) (Mv.setDat i v d) ⟨List.length_set, fun j hj => List.getElem?_set_ne fun e => hj (by simp [e])⟩ h⟩
abbrev TGsd (R : Rs) := List D → List En → R.M → (List En → R.M → Prop) → Prop
def tsNil : TGsd R := fun ds ρ m Q => match ds with
  | [] => Q ρ m
  | _ => False
def tsCons (t : TGd R) (u : TGsd R) : TGsd R := fun ds ρ m Q => match ds with
  | d :: r => t d ρ m fun ρ1 m1 => u r ρ1 m1 Q
  | [] => False
variable (X R) in
structure DGs (ts : List Expr) (t : TGsd R) (ss : List Nat) : Prop where
  ex : ∃ g, PGs X ts g ∧ ∀ (z : Z0 R) (ρ : List En) (m : R.M) (σ : L2.St) (H F : Hp) (vs : List V) (ds : List D) (Q : List En → R.M → Prop) (Qh : L2.St → Hp → Prop), Rel X.K R z ρ m σ H F → DrAll X.K F vs ds → t ds ρ m Q →
    (∀ ρ' m' σ' H' F', Rel X.K R z ρ' m' σ' H' F' → Mv R ρ m σ H F ρ' m' σ' H' F' → (σ'.length = σ.length ∧ ∀ i, i ∉ ss → σ'[i]? = σ[i]?) → Q ρ' m' → Qh σ' H') → g vs σ H Qh
theorem dgs_nil : DGs X R [] tsNil [] := ⟨_, pgs_nil, fun z ρ m σ H F vs ds Q Qh I r h q => by
  cases r with
  | nil => exact ⟨rfl, q ρ m σ H F I Mv.refl ⟨rfl, fun _ _ => rfl⟩ h⟩
  | cons => exact h.elim⟩
theorem dgs_cons {t : TGd R} {u : TGsd R} {s1' s2' : List Nat} (h1 : DG X R e t s1') (h2 : DGs X R es u s2') (hs : (assignEach (e :: es) X.env).map (·.2) = assign e X.env :: (assignEach es X.env).map (·.2) := by rfl) : DGs X R (e :: es) (tsCons t u) (s1' ++ s2') := by
  obtain ⟨_, p1, s1⟩ := h1
  obtain ⟨_, p2, s2⟩ := h2
  refine ⟨_, pgs_cons p1 p2 hs, fun z ρ m σ H F vs ds Q Qh I r h q => ?_⟩
  cases r with
  | nil => exact h.elim
  | cons r1 r2 =>
    refine ⟨_, _, rfl, ?_⟩
    exact s1 z ρ m σ H F _ _ _ _ I r1 h fun ρ1 m1 σ1 H1 F1 I1 f1 k1 h1 => s2 z ρ1 m1 σ1 H1 F1 _ _ _ _ I1 (r2.up f1.same) h1 fun ρ2 m2 σ2 H2 F2 I2 f2 k2 h2 => q ρ2 m2 σ2 H2 F2 I2 (f1.trans f2) ⟨k2.1.trans k1.1, fun i hi => (k2.2 i fun x => hi (by simp [x])).trans (k1.2 i fun x => hi (by simp [x]))⟩ h2
def tTupD (n : Nat) (t : TGsd R) : TGd R := fun d ρ m Q => match d with
  | .tup xs => xs.length = n ∧ t xs ρ m Q
  | _ => False
theorem dg_tup {k n : Nat} {t : TGsd R} {ss : List Nat} (hc : X.calm = true) (h : DGs X R es t ss) (hn : (assignEach es X.env).length = n := by rfl) (hst : (assignEach es X.env).findIdx? (·.1) = none := by rfl) : DG X R (.Tuple es k pos) (tTupD n t) ss := by
  obtain ⟨_, p1, s1⟩ := h
  refine ⟨_, pg_tup hc p1 hn hst, fun z ρ m σ H F v d Q Qh I r h q => ?_⟩
  cases d <;> first | exact h.elim | skip
  rename_i ds
  cases r with
  | tup ht ra => exact ⟨_, _, rfl, Same.sqT I.sub ht, by rw [ra.length]; exact h.1, s1 z ρ m σ H F _ _ _ _ I ra h.2 q⟩
/-- target = value -/
def sAsg (t : TD R) (g : TGd R) : TSd R := fun D ρ m => t D.rz ρ m fun d ρ1 m1 => d.firm ∧ g d ρ1 m1 D.nx
theorem ds_asg {g : TGd R} {ss : List Nat} (he : DE X W R e te) (hg : DG X R tg g ss) (hs : swapsWithSole [tg] e pos.line X.env = pure false := by rfl) (hw : swappedStores [tg] e X.env = pure none := by rfl) (h1 : (assignEach [tg] X.env).map (·.2) = [assign tg X.env] := by rfl) : DS X W R (.Assign [tg] e pos) (sAsg te g) := by
  obtain ⟨_, p1, s1⟩ := he
  obtain ⟨_, p2, s2⟩ := hg
  refine ⟨_, ps_asg p1 p2 hs hw h1, fun z ρ m σ H F D Dh M I h => ?_⟩
  refine s1 z D.rz ρ m σ H F _ _ M.rz I h fun v H1 F1 ρ1 m1 d I1 f1 r1 h1 => ?_
  exact s2 z ρ1 m1 σ H1 F1 v d _ _ I1 (r1.dr h1.1) h1.2 fun ρ2 m2 σ2 H2 F2 I2 f2 _ h2 => M.nx ρ2 m2 σ2 H2 F2 I2 (f1.same.trans f2.same) h2

/-! ### changes in place of a name's own list -/
/-- x.append(e) -/
def eApp (i : Nat) (t : TD R) : TD R := fun Z ρ m Q => t Z ρ m fun d ρ1 m1 => d.firm ∧ match nth ρ1 i with
  | .own xs => xs.length < sizeLine ∧ Q .non (ρ1.set i (.own (xs ++ [d]))) m1
  | _ => False
theorem Rel.slotV {K : PySem.W.Frag} {z : Z0 R} {ρ : List En} {m : R.M} {σ : L2.St} {H F : Hp} (I : Rel K R z ρ m σ H F) {i : Nat} {ds : List D} (e : nth ρ i = .own ds) : ∃ a xs, σ[i]? = some (some (.ref a)) ∧ ρ[i]? = some (.own ds) ∧ H a = some (.lst xs) ∧ DrAll K F xs ds := by
  have e' := nth_get e (fun q => nomatch q)
  obtain ⟨a, xs, h1, h2, _, _, h5⟩ := I.own_at e'
  exact ⟨a, xs, h1, e', h2, h5⟩
/-- the name at slot i holds what it held when its own list is there at the end of the arguments -/
theorem Rel.slot_ref {K : PySem.W.Frag} {z : Z0 R} {ρ : List En} {m : R.M} {σ : L2.St} {H F : Hp} (I : Rel K R z ρ m σ H F) {i : Nat} {v : V} (h : σ[i]? = some (some v)) {ds : List D} (e : nth ρ i = .own ds) : ∃ a xs, v = .ref a ∧ H a = some (.lst xs) ∧ DrAll K F xs ds := by
  obtain ⟨a, xs, h1, _, h2, h3⟩ := I.slotV e
  rw [h] at h1
  cases h1
  exact ⟨a, xs, rfl, h2, h3⟩
/-- a method of a list at a name, by values: what is there ahead of the arguments is a list too -/
def eOwnM (i : Nat) (t : TL R) (f : List D → List D → (D → List D → Prop) → Prop) : TD R := fun Z ρ m Q => (∃ xs, nth ρ i = .own xs) ∧ t Z ρ m fun ds ρ1 m1 => Firms ds ∧ match nth ρ1 i with
  | .own xs => f xs ds fun d ys => Q d (ρ1.set i (.own ys)) m1
  | _ => False
theorem de_ownM {i : Nat} {o : Expr} {id : String} {name : Str} {apos : Pos} {r : V → List V → Hp → VK → Prop} {f : List D → List D → (D → List D → Prop) → Prop} (slot : Slot "list" name id) (hty : typeOf (.builtin id) = pure (.type "method_descriptor")) (hm : MtR X id r)
    (L : ∀ (F H : Hp) (a : Addr) (vs : List V) (xs : List V) (ds : List D) (es : List D) (Q : D → List D → Prop) (Qh : VK), H a = some (.lst xs) → DrAll X.K F xs ds → DrAll X.K F vs es → f ds es Q → (∀ v d ys gs, Dr X.K F v d → DrAll X.K F ys gs → Q d gs → Qh v (upd H a (.lst ys))) → r (.ref a) vs H Qh)
    (ho : PE X o (tVar i)) (ha : DA X W R (e :: es) tl) (hbase : attributeBase o name X.env (eval o X.env) = eval o X.env := by rfl)
    (hfew : ((backTo pos (starEach (e :: es) X.env)).all (fun x => !x.1) && (backToKw pos (keywordEach [] X.env)).all (fun x => x.1.isSome)
      && decide ((e :: es).length + ([] : List Keyword).length + (if ([] : List Keyword).isEmpty then 0 else 1) < 30)) = true := by rfl)
    (hline : (apos.endLine == pos.line) = true := by rfl) (hs : starEach (e :: es) X.env = (false, eval e X.env) :: starEach es X.env := by rfl) (hplain : (backTo pos (starEach es X.env)).any (·.1) = false := by rfl) :
    DE X W R (.Call (.Attribute o name apos) (e :: es) [] pos) (eOwnM i tl f) := by
  obtain ⟨_, p1, s1⟩ := ha
  refine ⟨_, pe_bm F.plainAttrs_list slot hty hm ho p1 hbase hfew hline hs hplain, fun z Z ρ m σ H F Q Qh hz I h q => ?_⟩
  obtain ⟨⟨xs0, e0⟩, h⟩ := h
  obtain ⟨a0, ys0, g1, _, g2, _⟩ := I.slotV e0
  refine ⟨_, g1, .inl ⟨rfl, _, SqL.of g2⟩, ?_⟩
  refine s1 z Z ρ m σ H F _ _ hz I h fun vs H1 F1 ρ1 m1 ds I1 f1 r1 _ h1 => ?_
  obtain ⟨fm, h1⟩ := h1
  cases e1 : nth ρ1 i <;> rw [e1] at h1 <;> first | exact h1.elim | skip
  rename_i xs
  obtain ⟨a, us, q1, q2, q3, q4⟩ := I1.slotV e1
  rw [g1] at q1
  cases q1
  refine L F1 H1 a0 vs us xs ds _ _ q3 q4 (r1.dr fm) h1 fun v d ys gs rd ra hq => ?_
  exact q v _ F1 _ m1 d (I1.change q2 g1 ra) (f1.trans (Mv.change q2 g1)) rd.dv hq
def fAppend : List D → List D → (D → List D → Prop) → Prop := fun xs es Q => match es with
  | [d] => xs.length < sizeLine ∧ Q .non (xs ++ [d])
  | _ => False
theorem de_append {i : Nat} {o : Expr} {apos : Pos} (ho : PE X o (tVar i)) (ha : DA X W R [e] tl) (hbase : attributeBase o "append" X.env (eval o X.env) = eval o X.env := by rfl)
    (hfew : ((backTo pos (starEach [e] X.env)).all (fun x => !x.1) && (backToKw pos (keywordEach [] X.env)).all (fun x => x.1.isSome) && decide ([e].length + ([] : List Keyword).length + (if ([] : List Keyword).isEmpty then 0 else 1) < 30)) = true := by rfl)
    (hline : (apos.endLine == pos.line) = true := by rfl) (hs : starEach [e] X.env = (false, eval e X.env) :: starEach [] X.env := by rfl) (hplain : (backTo pos (starEach [] X.env)).any (·.1) = false := by rfl) :
    DE X W R (.Call (.Attribute o "append" apos) [e] [] pos) (eOwnM i tl fAppend) :=
  de_ownM F.slot_list_append F.type_list_append mt_append (fun F H a vs xs ds es Q Qh hH r rs h0 q => by
    unfold fAppend at h0
    split at h0
    · cases rs with
      | cons rd rn =>
        cases rn
        exact ⟨a, xs, _, rfl, rfl, hH, by rw [r.length]; exact h0.1, q _ _ _ _ .non (r.append (.cons rd .nil)) h0.2⟩
    · exact h0.elim) ho ha hbase hfew hline hs hplain
/-- x[k] = e -/
def sPut (i : Nat) (tk t : TD R) : TSd R := fun D ρ m => t D.rz ρ m fun d ρ1 m1 => d.firm ∧ (∃ xs, nth ρ1 i = .own xs) ∧ tk D.rz ρ1 m1 fun k ρ2 m2 => match nth ρ2 i, k with
  | .own xs, .int k => ∃ j, ixN xs.length k = some j ∧ D.nx (ρ2.set i (.own (xs.set j d))) m2
  | _, _ => False
theorem ds_put {i : Nat} {o k : Expr} {spos : Pos} {tk : TD R} (ho : PE X o (tVar i)) (hk : DE X W R k tk) (he : DE X W R e te)
    (ha : ∀ {to ti : TE}, PE X o to → PE X k ti → PG X (.Subscript o k spos) (gSub to ti rSetL) := by exact fun h1 h2 => pg_sub h1 h2 set_list)
    (hs : swapsWithSole [.Subscript o k spos] e pos.line X.env = pure false := by rfl) (hw : swappedStores [.Subscript o k spos] e X.env = pure none := by rfl) (h1 : (assignEach [.Subscript o k spos] X.env).map (·.2) = [assign (.Subscript o k spos) X.env] := by rfl) : DS X W R (.Assign [.Subscript o k spos] e pos) (sPut i tk te) := by
  obtain ⟨_, p1, s1⟩ := he
  obtain ⟨_, p2, s2⟩ := hk
  refine ⟨_, ps_asg p1 (ha ho p2) hs hw h1, fun z ρ m σ H F D Dh M I h => ?_⟩
  refine s1 z D.rz ρ m σ H F _ _ M.rz I h fun v H1 F1 ρ1 m1 d I1 f1 r1 h1 => ?_
  obtain ⟨fm, ⟨xs0, e0⟩, h1⟩ := h1
  have rd := r1.dr fm
  obtain ⟨a0, ys0, g1, _, g2, _⟩ := I1.slotV e0
  refine ⟨_, g1, s2 z D.rz ρ1 m1 σ H1 F1 _ _ M.rz I1 h1 fun u H2 F2 ρ2 m2 d2 I2 f2 r2 h2 => ?_⟩
  cases e1 : nth ρ2 i <;> rw [e1] at h2 <;> first | exact h2.elim | skip
  rename_i xs
  cases d2 <;> first | exact h2.elim | skip
  rename_i kk
  obtain rfl := r2.int
  obtain ⟨j, hj, hn⟩ := h2
  obtain ⟨a, us, q1, q2, q3, q4⟩ := I2.slotV e1
  rw [g1] at q1
  cases q1
  exact ⟨a0, us, kk, j, rfl, rfl, q3, by rw [q4.length]; exact hj, M.nx _ m2 _ _ F2 (I2.change q2 g1 (q4.set (rd.up f2.same) j)) (f1.same.trans f2.same) hn⟩
end
end DL

/-! Data layer: comprehensions, calls of defs, a def's promise. -/
namespace DL
open PySem L2

/-! ### comprehensions -/
def wipeE (ρ : List En) : List Nat → List En
  | [] => ρ
  | v :: vs => (wipeE ρ vs).set v .un
section
variable {K : PySem.W.Frag} {R : Rs} {z : Z0 R} {ρ : List En} {m : R.M} {σ : L2.St} {H F : Hp}
theorem Rel.wipe (I : Rel K R z ρ m σ H F) : ∀ vs : List Nat, Rel K R z (wipeE ρ vs) m (L2.wipe σ vs) H F
  | [] => I
  | v :: vs => (Rel.wipe I vs).drop v none
/-- the slots of what isn't known may hold anything -/
theorem Rel.swap {σ' : L2.St} (I : Rel K R z ρ m σ H F) (hl : σ'.length = σ.length) (h : ∀ (i : Nat) (e : En), ρ[i]? = some e → e ≠ .un → σ'[i]? = σ[i]?) : Rel K R z ρ m σ' H F := by
  have nu : ∀ xs, En.own xs ≠ .un := fun _ q => nomatch q
  refine ⟨I.toHs, by rw [hl]; exact I.len, fun i e he => ?_, fun i j a xs ys e1 e2 e3 e4 => ?_, fun a i xs hv e q => ?_⟩
  · by_cases hu : e = .un
    · subst hu
      have hi : i < σ'.length := by rw [hl, I.len]; exact lt_of_get he
      exact ⟨σ'[i], List.getElem?_eq_getElem hi, trivial⟩
    · rw [h i e he hu]
      exact I.var i e he
  · rw [h i _ e1 (nu _)] at e3
    rw [h j _ e2 (nu _)] at e4
    exact I.apart i j a xs ys e1 e2 e3 e4
  · rw [h i _ e (nu _)] at q
    exact I.vO a i xs hv e q
/-- a list that stands aside is changed -/
theorem Rel.putAside (I : Rel K R z ρ m σ H F) {a : Addr} {o : HO} (fF : F a = none) (zH : z.H a = none) (n : Aside R ρ m σ a) : Rel K R z ρ m σ (upd H a o) F := by
  have k : ∀ b u, b ≠ a → H b = some u → upd H a o b = some u := fun b u ne q => by rw [upd_ne ne]; exact q
  refine ⟨⟨fun b u q => k b u (ne_of_none q fF) (I.sub b u q), R.ext I.res (Same.refl F) fun b u hv q => k b u (fun q2 => n.1 (q2 ▸ hv)) q, I.vF, fun b u q nv => ⟨k b u (ne_of_none q zH) (I.fr b u q nv).1, (I.fr b u q nv).2⟩, I.vz, fun b u q => ?_, I.fz⟩, I.len, fun j u he => ?_, I.apart, I.vO⟩
  · obtain ⟨o', q'⟩ := I.zH b u q
    exact ⟨o', k b o' (ne_of_none q zH) q'⟩
  · obtain ⟨v, q1, q2⟩ := I.var j u he
    refine ⟨v, q1, q2.up (Same.refl F) fun b xs' e0 ho e1 e2 _ => ⟨k b _ (fun q => ?_) e1, e2⟩⟩
    obtain ⟨zs, rfl⟩ := ho
    exact n.2 j zs he (by rw [q1, e0, q])
theorem wipeE_un : ∀ (vs : List Nat) (v : Nat) (e : En), v ∈ vs → (wipeE ρ vs)[v]? = some e → e = .un
  | u :: vs, v, e, hm, h => by
    by_cases hv : v = u
    · subst hv
      have hl : v < (wipeE ρ vs).length := by
        have := lt_of_get h
        rwa [show wipeE ρ (v :: vs) = (wipeE ρ vs).set v .un from rfl, List.length_set] at this
      rw [show wipeE ρ (v :: vs) = (wipeE ρ vs).set v .un from rfl, List.getElem?_set_self hl] at h
      cases h; rfl
    · rw [show wipeE ρ (u :: vs) = (wipeE ρ vs).set u .un from rfl, List.getElem?_set_ne (Ne.symm hv)] at h
      exact wipeE_un vs v e ((List.mem_cons.mp hm).resolve_left hv) h
theorem wipe_other : ∀ (vs : List Nat) (v : Nat), v ∉ vs → (L2.wipe σ vs)[v]? = σ[v]?
  | [], _, _ => rfl
  | u :: vs, v, hm => by
    rw [show L2.wipe σ (u :: vs) = (L2.wipe σ vs).set u none from rfl, List.getElem?_set_ne (fun q => hm (by simp [q]))]
    exact wipe_other vs v fun q => hm (List.mem_cons_of_mem _ q)
theorem wipe_in : ∀ (vs : List Nat) (v : Nat), v ∈ vs → v < σ.length → (L2.wipe σ vs)[v]? = some none
  | u :: vs, v, hm, hl => by
    by_cases hv : v = u
    · subst hv
      rw [show L2.wipe σ (v :: vs) = (L2.wipe σ vs).set v none from rfl, List.getElem?_set_self (by rw [wipe_length]; exact hl)]
    · rw [show L2.wipe σ (u :: vs) = (L2.wipe σ vs).set u none from rfl, List.getElem?_set_ne (Ne.symm hv)]
      exact wipe_in vs v ((List.mem_cons.mp hm).resolve_left hv) hl
theorem wipe_same {σ' : L2.St} {vs : List Nat} (hl : σ'.length = σ.length) (h : ∀ i, i ∉ vs → σ'[i]? = (L2.wipe σ vs)[i]?) : L2.wipe σ' vs = L2.wipe σ vs := by
  apply List.ext_getElem?
  intro i
  by_cases hi : i ∈ vs
  · by_cases hn : i < σ.length
    · rw [wipe_in vs i hi (by rw [hl]; exact hn), wipe_in vs i hi hn]
    · rw [List.getElem?_eq_none (by rw [wipe_length, hl]; omega), List.getElem?_eq_none (by rw [wipe_length]; omega)]
  · rw [wipe_other vs i hi, h i hi]
theorem Rel.unwipe {vs : List Nat} (I : Rel K R z (wipeE ρ vs) m (L2.wipe σ vs) H F) : Rel K R z (wipeE ρ vs) m σ H F :=
  I.swap (wipe_length σ vs).symm fun i e he hu => (wipe_other vs i fun hm => hu (wipeE_un vs i e hm he)).symm
theorem Aside.wipe {a : Addr} (n : Aside R ρ m σ a) (vs : List Nat) : Aside R (wipeE ρ vs) m (L2.wipe σ vs) a := by
  induction vs with
  | nil => exact n
  | cons v vs ih =>
    exact ih.sub fun j xs e1 q1 => by
      obtain ⟨nj, e2⟩ := set_own_old (e := .un) (fun _ q => nomatch q) e1
      rw [show L2.wipe σ (v :: vs) = (L2.wipe σ vs).set v none from rfl, List.getElem?_set_ne (Ne.symm nj)] at q1
      exact ⟨xs, e2, q1⟩
theorem Aside.unwipe {a : Addr} {vs : List Nat} (n : Aside R (wipeE ρ vs) m (L2.wipe σ vs) a) : Aside R (wipeE ρ vs) m σ a :=
  n.sub fun j xs e1 q1 => ⟨xs, e1, by
    rw [wipe_other vs j fun hm => by have := wipeE_un vs j _ hm e1; cases this]
    exact q1⟩
end
section
variable {X : Cx} {W : WX} {R : Rs} {e tg : Expr} {es ifs : List Expr} {pos : Pos} {te : TD R} {tl : TL R} {tc : TB R} {g : TGd R} {ss : List Nat}
variable (X W R) in
structure DTs (cs : List Expr) (t : TB R) : Prop where
  ex : ∃ tt, PTs X cs tt ∧ ST X.K W R tt t
def bYes : TB R := fun _ ρ m Q => Q true ρ m
theorem dts_nil : DTs X W R [] bYes := ⟨_, pts_nil, fun z Z ρ m σ H F Q Qh hz I h q => q true H F ρ m I Mv.refl h⟩
theorem dts_one (h : DT X W R e tc) : DTs X W R [e] tc := by
  obtain ⟨_, p, s⟩ := h
  exact ⟨_, pts_one p, s⟩
abbrev W0 : WX := fun _ _ _ _ => False
abbrev zF {R : Rs} : ZC R := fun _ _ _ => False
theorem zok0 {K : PySem.W.Frag} {z : Z0 R} {W : WX} : Zok K R z W zF := fun _ _ _ _ _ _ _ _ _ _ h => h.elim
/-- the turns that are left, what is made so far -/
def lcD (g : TGd R) (t : TB R) (e : TD R) (vs : List Nat) (Q : KL R) : List D → List D → List En → R.M → Prop
  | [], acc => fun ρ m => Q acc ρ m
  | d :: ds, acc => fun ρ m => g d ρ m fun ρ2 m2 => t zF ρ2 m2 fun b ρ3 m3 =>
    (b = true → e zF ρ3 m3 fun y ρ4 m4 => y.firm ∧ acc.length < sizeLine ∧ lcD g t e vs Q ds (acc ++ [y]) (wipeE ρ4 vs) m4) ∧ (b = false → lcD g t e vs Q ds acc (wipeE ρ3 vs) m3)
def eLc (i : TL R) (g : TGd R) (t : TB R) (e : TD R) (vs : List Nat) : TL R := fun Z ρ m Q => i Z ρ m fun ds ρ1 m1 => lcD g t e vs Q ds [] (wipeE ρ1 vs) m1
/-- within a comprehension nothing is raised -/
theorem so_lc {wi : TI} {gh : TG} {tt : TT} {t1 : TE} {vs : List Nat} (s0 : SI X.K W R wi tl) (s1 : SG X.K R gh g ss) (hss : ∀ i ∈ ss, i ∈ vs) (s2 : ST X.K W0 R tt tc) (s3 : SE X.K W0 R t1 te) : SO X.K W R (tLc wi gh tt t1 vs) (eLc tl g tc te vs) := fun z Z ρ m σ H F Q Qh hz I h q => by
  refine s0 z Z ρ m σ H F _ _ hz I h fun J H1 F1 ρ1 m1 ds I1 f1 w h1 => ?_
  intro C hC
  have I1w := (I1.wipe vs).unwipe
  refine ⟨fun i n H' => ∃ ρ' m' F' acc xs, Rel X.K R z (wipeE ρ' vs) m' σ H' F' ∧ Mv R ρ m σ H F (wipeE ρ' vs) m' σ H' F' ∧ Same F1 F' ∧ Aside R (wipeE ρ' vs) m' σ C ∧ F' C = none ∧ H' C = some (.lst xs) ∧ DrAll X.K F' xs acc ∧ n = ds.length - i ∧ i ≤ ds.length ∧ lcD g tc te vs Q (ds.drop i) acc (wipeE ρ' vs) m', ?_, ?_⟩
  · refine ⟨ds.length, ρ1, m1, F1, [], [], I1w.alloc hC, ?_, Same.refl F1, ?_, I1.sub.free hC, upd_same, .nil, rfl, Nat.zero_le _, h1⟩
    · exact f1.trans ⟨Same.refl F1, fun b o e => ⟨o, by rw [upd_ne (ne_of_none e hC)]; exact e⟩, fun b o e n => ⟨by rw [upd_ne (ne_of_none e hC)]; exact e, rfl, (n.wipe vs).unwipe⟩⟩
    · have L := I1w.loose_new (o := .lst []) hC
      exact ⟨L.vol, L.own⟩
  · rintro i n H' ⟨ρ', m', F', acc, xs, I', mv, fs, nC, fC, eC, rC, rfl, hi, h⟩
    by_cases hlt : i < ds.length
    · refine .inr ⟨w.go i _ m' σ H' F' I' fs hlt, fun H' => ∃ ρ' m' F' acc xs, Rel X.K R z (wipeE ρ' vs) m' σ H' F' ∧ Mv R ρ m σ H F (wipeE ρ' vs) m' σ H' F' ∧ Same F1 F' ∧ Aside R (wipeE ρ' vs) m' σ C ∧ F' C = none ∧ H' C = some (.lst xs) ∧ DrAll X.K F' xs acc ∧ lcD g tc te vs Q (ds.drop (i + 1)) acc (wipeE ρ' vs) m', fun H' ⟨ρ', m', F', acc, xs, a, b, c, d, e, f, k, l⟩ => ⟨ds.length - (i + 1), by omega, ρ', m', F', acc, xs, a, b, c, d, e, f, k, rfl, hlt, l⟩, fun x H2 y => ?_⟩
      rw [List.drop_eq_getElem_cons hlt] at h
      obtain ⟨F2, I2, mv2, r2⟩ := w.yld i _ m' σ H' F' x H2 ds[i] I' fs (List.getElem?_eq_getElem hlt) y
      obtain ⟨eC2, fC2, nC2⟩ := mv2.kp C _ eC nC
      -- the block's slots
      have I2w : Rel X.K R z (wipeE ρ' vs) m' (L2.wipe σ vs) H2 F2 := by
        have := I2.wipe vs
        refine Rel.swap I2 (wipe_length σ vs) fun j e he hu => wipe_other vs j fun hm => hu (wipeE_un vs j e hm he)
      have nC2w : Aside R (wipeE ρ' vs) m' (L2.wipe σ vs) C := nC2.sub fun j ys e1 q1 => ⟨ys, e1, by
        rw [wipe_other vs j fun hm => by have := wipeE_un vs j _ hm e1; cases this] at q1
        exact q1⟩
      refine s1 z _ m' (L2.wipe σ vs) H2 F2 x ds[i] _ _ I2w r2 h fun ρ3 m3 σ3 H3 F3 I3 mv3 k3 h3 => ?_
      obtain ⟨eC3, fC3, nC3⟩ := mv3.kp C _ eC2 nC2w
      have w3 : L2.wipe σ3 vs = L2.wipe σ vs := wipe_same (k3.1.trans (wipe_length σ vs)) fun j hj => k3.2 j fun q => hj (hss j q)
      refine ⟨w3, ?_⟩
      have mvb : Mv R (wipeE ρ' vs) m' σ H' F' (wipeE ρ' vs) m' (L2.wipe σ vs) H2 F2 := ⟨mv2.same, mv2.live, fun b o e n => by
        obtain ⟨e', f', n'⟩ := mv2.kp b o e n
        exact ⟨e', f', n'.sub fun j ys e1 q1 => ⟨ys, e1, by
          rw [wipe_other vs j fun hm => by have := wipeE_un vs j _ hm e1; cases this] at q1
          exact q1⟩⟩⟩
      have mvA := (mv.trans mvb).trans mv3
      have back : ∀ {ρ5 : List En} {m5 : R.M} {H5 F5 : Hp}, Rel X.K R z ρ5 m5 σ3 H5 F5 → Rel X.K R z (wipeE ρ5 vs) m5 σ H5 F5 := fun I5 => by
        have q := I5.wipe vs
        rw [w3] at q
        exact q.unwipe
      have backN : ∀ {ρ5 : List En} {m5 : R.M} {b : Addr}, Aside R ρ5 m5 σ3 b → Aside R (wipeE ρ5 vs) m5 σ b := fun n5 => by
        have q := n5.wipe vs
        rw [w3] at q
        exact q.unwipe
      have backM : ∀ {ρ5 : List En} {m5 : R.M} {H5 F5 : Hp}, Mv R ρ m σ H F ρ5 m5 σ3 H5 F5 → Mv R ρ m σ H F (wipeE ρ5 vs) m5 σ H5 F5 := fun q => ⟨q.same, q.live, fun b o e n => by
        obtain ⟨e', f', n'⟩ := q.kp b o e n
        exact ⟨e', f', backN n'⟩⟩
      have fs3 : Same F1 F3 := (fs.trans mv2.same).trans mv3.same
      refine s2 z zF ρ3 m3 σ3 H3 F3 _ _ zok0 I3 h3 fun b H4 F4 ρ4 m4 I4 mv4 h4 => ?_
      obtain ⟨eC4, fC4, nC4⟩ := mv4.kp C _ eC3 nC3
      cases b with
      | false =>
        refine iteF ⟨ρ4, m4, F4, acc, xs, back I4, backM (mvA.trans mv4), fs3.trans mv4.same, backN nC4, ?_, eC4, ?_, h4.2 rfl⟩
        · rw [fC4, fC3, fC2]; exact fC
        · exact ((rC.up mv2.same).up mv3.same).up mv4.same
      | true =>
        refine iteT ?_
        refine s3 z zF ρ4 m4 σ3 H4 F4 _ _ zok0 I4 (h4.1 rfl) fun v H5 F5 ρ5 m5 y I5 mv5 r5 h5 => ?_
        obtain ⟨eC5, fC5, nC5⟩ := mv5.kp C _ eC4 nC4
        have fC' : F5 C = none := by rw [fC5, fC4, fC3, fC2]; exact fC
        have zC : z.H C = none := (I.newH (f1.free hC)).2.1
        have rC5 : DrAll X.K F5 xs acc := (((rC.up mv2.same).up mv3.same).up mv4.same).up mv5.same
        refine ⟨xs, eC5, by rw [rC.length]; exact h5.2.1, ρ5, m5, F5, acc ++ [y], xs ++ [v], ?_, ?_, (fs3.trans mv4.same).trans mv5.same, backN nC5, fC', upd_same, rC5.append (.cons (r5.dr h5.1) .nil), h5.2.2⟩
        · exact (back I5).putAside fC' zC (backN nC5)
        · have q := backM ((mvA.trans mv4).trans mv5)
          exact ⟨q.same, fun b o e => by
            by_cases hb : b = C
            · exact ⟨_, by rw [hb]; exact upd_same⟩
            · obtain ⟨o', e'⟩ := q.live b o e
              exact ⟨o', by rw [upd_ne hb]; exact e'⟩, fun b o e n => by
            obtain ⟨e', f', n'⟩ := q.kp b o e n
            exact ⟨by rw [upd_ne (ne_of_none e (f1.free hC))]; exact e', f', n'⟩⟩
    · have e : i = ds.length := by omega
      subst e
      rw [List.drop_length] at h
      exact .inl ⟨w.stop _ _ m' σ H' F' I' fs (Nat.le_refl _), q C xs acc H' F' _ m' I' mv (f1.free hC) ⟨fC, (I.newH (f1.free hC)).2.1, nC.1, nC.2⟩ eC rC h⟩
theorem PE.imp {t t' : TE} (p : PE X e t) (h : ∀ σ H Q, t' σ H Q → t σ H Q) : PE X e t' := ⟨fun pins s σ H Q I q => p.run pins s σ H Q I (h σ H Q q)⟩
theorem PTs.imp {t t' : TT} (p : PTs X es t) (h : ∀ σ H Q, t' σ H Q → t σ H Q) : PTs X es t' := ⟨fun pins s σ H Q I q => p.run pins s σ H Q I (h σ H Q q)⟩
theorem PG.imp {t t' : TG} (p : PG X e t) (h : ∀ v σ H Q, t' v σ H Q → t v σ H Q) : PG X e t' := ⟨fun pins s σ H v u Q I r q => p.run pins s σ H v u Q I r (h v σ H Q q)⟩
/-- one reading for every state of a comprehension's block -/
theorem DE.all {ι : Type} {Y : ι → Cx} {K : PySem.W.Frag} (hK : ∀ i, (Y i).K = K) (h : ∀ i, DE (Y i) W R e te) : ∃ t1, (∀ i, PE (Y i) e t1) ∧ SE K W R t1 te := by
  have h' : ∀ i, ∃ t2, PE (Y i) e t2 ∧ SE K W R t2 te := fun i => by
    obtain ⟨t2, a, b⟩ := (h i).ex
    rw [hK i] at b
    exact ⟨t2, a, b⟩
  refine ⟨fun σ H Q => ∀ i, Classical.choose (h' i) σ H Q, fun i => PE.imp (Classical.choose_spec (h' i)).1 fun σ H Q q => q i, fun z Z ρ m σ H F Q Qh hz I h0 q i => ?_⟩
  have s := (Classical.choose_spec (h' i)).2
  exact s z Z ρ m σ H F Q Qh hz I h0 q
theorem DTs.all {ι : Type} {Y : ι → Cx} {K : PySem.W.Frag} (hK : ∀ i, (Y i).K = K) (h : ∀ i, DTs (Y i) W R es tc) : ∃ t1, (∀ i, PTs (Y i) es t1) ∧ ST K W R t1 tc := by
  have h' : ∀ i, ∃ t2, PTs (Y i) es t2 ∧ ST K W R t2 tc := fun i => by
    obtain ⟨t2, a, b⟩ := (h i).ex
    rw [hK i] at b
    exact ⟨t2, a, b⟩
  refine ⟨fun σ H Q => ∀ i, Classical.choose (h' i) σ H Q, fun i => PTs.imp (Classical.choose_spec (h' i)).1 fun σ H Q q => q i, fun z Z ρ m σ H F Q Qh hz I h0 q i => ?_⟩
  have s := (Classical.choose_spec (h' i)).2
  exact s z Z ρ m σ H F Q Qh hz I h0 q
theorem DG.all {ι : Type} {Y : ι → Cx} {K : PySem.W.Frag} (hK : ∀ i, (Y i).K = K) (h : ∀ i, DG (Y i) R e g ss) : ∃ t1, (∀ i, PG (Y i) e t1) ∧ SG K R t1 g ss := by
  have h' : ∀ i, ∃ t2, PG (Y i) e t2 ∧ SG K R t2 g ss := fun i => by
    obtain ⟨t2, a, b⟩ := (h i).ex
    rw [hK i] at b
    exact ⟨t2, a, b⟩
  refine ⟨fun v σ H Q => ∀ i, Classical.choose (h' i) v σ H Q, fun i => PG.imp (Classical.choose_spec (h' i)).1 fun v σ H Q q => q i, fun z ρ m σ H F v d Q Qh I r h0 q i => ?_⟩
  have s := (Classical.choose_spec (h' i)).2
  exact s z ρ m σ H F v d Q Qh I r h0 q
/-- what a block's state hangs on -/
abbrev BI := Shared × Hp × Addr × List (Str × Addr) × List Addr
abbrev blkX (X : Cx) (scope : Scope) (i : BI) : Cx := X.blk i.1 i.2.1 scope (compEnvC scope i.2.2.2.1 i.2.2.1 X.env) i.2.2.2.2
theorem do_lc {elt iter : Expr} {scope : Scope} {own : List (Str × Nat)} (hc : X.calm = true) (hN : X.N.Nodup) (hi : DI X W R tg iter tl) (ok : BlkOk X.N X.env.scope scope own)
    (hg : ∀ i : BI, DG (blkX X scope i) R tg g ss) (ht : ∀ i : BI, DTs (blkX X scope i) W0 R ifs tc) (he : ∀ i : BI, DE (blkX X scope i) W0 R elt te) (hss : ∀ j ∈ ss, j ∈ own.map (·.2)) (hs : ∀ x, foldedSetIterable iter X.env x = pure x := by intro _; rfl) :
    DO X W R (.ListComp elt [⟨tg, iter, ifs, 0⟩] scope pos) (eLc tl g tc te (own.map (·.2))) := by
  obtain ⟨_, p0, s0⟩ := hi
  obtain ⟨_, p1, s1⟩ := DG.all (Y := blkX X scope) (K := X.K) (fun _ => rfl) hg
  obtain ⟨_, p2, s2⟩ := DTs.all (Y := blkX X scope) (K := X.K) (fun _ => rfl) ht
  obtain ⟨_, p3, s3⟩ := DE.all (Y := blkX X scope) (K := X.K) (fun _ => rfl) he
  exact ⟨_, pe_lc hc hN p0 ok (fun s H C cl fp => p1 (s, H, C, cl, fp)) (fun s H C cl fp => p2 (s, H, C, cl, fp)) (fun s H C cl fp => p3 (s, H, C, cl, fp)) hs, so_lc s0 s1 hss s2 s3⟩
/-- y = [..], y a local -/
theorem ds_setLc {i : Nat} {y : Str} {py spos : Pos} {elt iter : Expr} {scope : Scope} {own : List (Str × Nat)} (hc : X.calm = true) (hN : X.N.Nodup) (hy : X.N[i]? = some y) (hyl : X.env.scope.names.lookup y = some .local)
    (hsw : swapsWith (.ListComp elt [⟨tg, iter, ifs, 0⟩] scope pos) (some (.Name y py)) spos.line X.env = pure true) (hi : DI X W R tg iter tl) (ok : BlkOk X.N X.env.scope scope own)
    (hg : ∀ i : BI, DG (blkX X scope i) R tg g ss) (ht : ∀ i : BI, DTs (blkX X scope i) W0 R ifs tc) (he : ∀ i : BI, DE (blkX X scope i) W0 R elt te) (hss : ∀ j ∈ ss, j ∈ own.map (·.2)) (hs : ∀ x, foldedSetIterable iter X.env x = pure x := by intro _; rfl) :
    DS X W R (.Assign [.Name y py] (.ListComp elt [⟨tg, iter, ifs, 0⟩] scope pos) spos) (sOwn i (eLc tl g tc te (own.map (·.2)))) ∧ DS X W R (.Assign [.Name y py] (.ListComp elt [⟨tg, iter, ifs, 0⟩] scope pos) spos) (sSet i (eFz (eLc tl g tc te (own.map (·.2))))) := by
  obtain ⟨_, p0, s0⟩ := hi
  obtain ⟨_, p1, s1⟩ := DG.all (Y := blkX X scope) (K := X.K) (fun _ => rfl) hg
  obtain ⟨_, p2, s2⟩ := DTs.all (Y := blkX X scope) (K := X.K) (fun _ => rfl) ht
  obtain ⟨_, p3, s3⟩ := DE.all (Y := blkX X scope) (K := X.K) (fun _ => rfl) he
  have p := ps_setLc hc hN hy hyl hsw p0 ok (fun s H C cl fp => p1 (s, H, C, cl, fp)) (fun s H C cl fp => p2 (s, H, C, cl, fp)) (fun s H C cl fp => p3 (s, H, C, cl, fp)) hs
  have s := so_lc (vs := own.map (·.2)) s0 s1 hss s2 s3
  refine ⟨⟨_, p, fun z ρ m σ H F D Dh M I h => ?_⟩, ⟨_, p, fun z ρ m σ H F D Dh M I h => ?_⟩⟩
  · exact s z D.rz ρ m σ H F _ _ M.rz I h fun a xs ds H1 F1 ρ1 m1 I1 f1 _ L hH r1 h1 => M.nx _ m1 _ H1 F1 (I1.setOwn i L hH r1) f1.same h1
  · refine s z D.rz ρ m σ H F _ _ M.rz I h fun a xs ds H1 F1 ρ1 m1 I1 f1 hn L hH r1 h1 => ?_
    obtain ⟨J, e⟩ := I1.freeze L hH
    exact M.nx _ m1 _ H1 _ (J.setDat i (.lst (SqL.of upd_same) (r1.up e))) (f1.freeze hn L.fF).same h1.2
theorem ds_lcOwn {i : Nat} {y : Str} {py spos : Pos} {elt iter : Expr} {scope : Scope} {own : List (Str × Nat)} (hc : X.calm = true) (hN : X.N.Nodup) (hy : X.N[i]? = some y) (hyl : X.env.scope.names.lookup y = some .local)
    (hsw : swapsWith (.ListComp elt [⟨tg, iter, ifs, 0⟩] scope pos) (some (.Name y py)) spos.line X.env = pure true) (hi : DI X W R tg iter tl) (ok : BlkOk X.N X.env.scope scope own)
    (hg : ∀ i : BI, DG (blkX X scope i) R tg g ss) (ht : ∀ i : BI, DTs (blkX X scope i) W0 R ifs tc) (he : ∀ i : BI, DE (blkX X scope i) W0 R elt te) (hss : ∀ j ∈ ss, j ∈ own.map (·.2)) (hs : ∀ x, foldedSetIterable iter X.env x = pure x := by intro _; rfl) :
    DS X W R (.Assign [.Name y py] (.ListComp elt [⟨tg, iter, ifs, 0⟩] scope pos) spos) (sOwn i (eLc tl g tc te (own.map (·.2)))) :=
  (ds_setLc hc hN hy hyl hsw hi ok hg ht he hss hs).1
theorem ds_lcDat {i : Nat} {y : Str} {py spos : Pos} {elt iter : Expr} {scope : Scope} {own : List (Str × Nat)} (hc : X.calm = true) (hN : X.N.Nodup) (hy : X.N[i]? = some y) (hyl : X.env.scope.names.lookup y = some .local)
    (hsw : swapsWith (.ListComp elt [⟨tg, iter, ifs, 0⟩] scope pos) (some (.Name y py)) spos.line X.env = pure true) (hi : DI X W R tg iter tl) (ok : BlkOk X.N X.env.scope scope own)
    (hg : ∀ i : BI, DG (blkX X scope i) R tg g ss) (ht : ∀ i : BI, DTs (blkX X scope i) W0 R ifs tc) (he : ∀ i : BI, DE (blkX X scope i) W0 R elt te) (hss : ∀ j ∈ ss, j ∈ own.map (·.2)) (hs : ∀ x, foldedSetIterable iter X.env x = pure x := by intro _; rfl) :
    DS X W R (.Assign [.Name y py] (.ListComp elt [⟨tg, iter, ifs, 0⟩] scope pos) spos) (sSet i (eFz (eLc tl g tc te (own.map (·.2))))) :=
  (ds_setLc hc hN hy hyl hsw hi ok hg ht he hss hs).2
end
end DL

/-! Data layer: calls of defs, a def's promise. -/
namespace DL
open PySem L2

/-- a def's promise on data: its arguments, the resource, what is wanted of what it hands back, of what it raises -/
abbrev SpD (R : Rs) := List D → R.M → (D → R.M → Prop) → (Xd → R.M → Prop) → Prop
/-- a heap's part of a state is at its entry -/
structure Hs0 (K : PySem.W.Frag) (R : Rs) (m : R.M) (H F : Hp) : Prop where
  sub : Same F H
  res : R.ok K F m H
  vF : ∀ a, R.vol m a → F a = none
def spOf (K : PySem.W.Frag) (R : Rs) (n : Nat) (sp : SpD R) : Sp := fun vs H Q E => ∃ (F : Hp) (m : R.M) (ds : List D) (Qd : D → R.M → Prop) (Zd : Xd → R.M → Prop), vs.length = n ∧ Hs0 K R m H F ∧ DrAll K F vs ds ∧ sp ds m Qd Zd ∧
  (∀ v H' F' m' d, Hs K R ⟨F, H, m⟩ m' H' F' → Dr K F' v d → Qd d m' → Q v H') ∧ (∀ x H' F' m' cls d, Hs K R ⟨F, H, m⟩ m' H' F' → XdOk K F' H' x cls d → Zd x m' → E cls d H')
/-- as FnOk, where no guard is up around the call -/
structure FnG (P : Program) (w : World) (K : PySem.W.Frag) (mg : Str → Option Value) (base : Heap) (k : Nat) (f : Addr) (fd : FuncData) (ps : List Str) (sp : Sp) : Prop where
  len : ∀ vs H Q E, sp vs H Q E → vs.length = ps.length
  run : ∀ (A : Around) (outer : List Env) (s : Shared) (H : Hp) (args : Args) (us : List Value) (vs : List V) (Q : VK) (E : XK), Room k A → A.guards = some [] → Env0 P w K mg base A outer s H →
    BindsTo s fd args (ps.zip us) → Vals vs us → sp vs H Q E → codeAny (model P w) A (.call (.ref f) args) (CR (L2.CX P w) outer P w H s Q E) s
section
variable {P : Program} {w : World} {K : PySem.W.Frag} {mg : Str → Option Value} {base : Heap} {k : Nat} {f : Addr} {fd : FuncData} {ps : List Str} {sp sp' : Sp}
theorem FnG.mono {j : Nat} (F : FnG P w K mg base j f fd ps sp) (h : j ≤ k) : FnG P w K mg base k f fd ps sp :=
  ⟨F.len, fun A outer s H args us vs Q E hr hg => F.run A outer s H args us vs Q E (hr.mono h) hg⟩
theorem FnG.imp (F : FnG P w K mg base k f fd ps sp) (h : ∀ vs H Q E, sp' vs H Q E → sp vs H Q E) : FnG P w K mg base k f fd ps sp' :=
  ⟨fun vs H Q E q => F.len vs H Q E (h _ _ _ _ q), fun A outer s H args us vs Q E hr hg e0 hb rv hs => F.run A outer s H args us vs Q E hr hg e0 hb rv (h _ _ _ _ hs)⟩
/-- a def's body gives its promise -/
theorem fnG_of {x qual : Str} {st : Stmt} {N : List Str} (F : Fun K x qual st f fd) (S : FnScope N ps (defScope st)) (len : ∀ vs H Q E, sp vs H Q E → vs.length = ps.length)
    (hbody : ∀ (cdv : Value) (A : Around) (outer : List Env) (s : Shared) (H : Hp) (vs : List V) (Q : VK) (E : XK), Room k (A.deeper (PyProof.Rows.envOfC qual (defScope st) s.heap.objs.size f cdv)) → A.guards = some [] → sp vs H Q E →
      ∃ t, PSs (cxOf (L2.CX P w) P w K mg base N qual (defScope st) f cdv A outer s H E) (defBody st) t ∧ t { nx := fun _ H' => Q .non H', rt := Q } (L2.start N vs) H) : FnG P w K mg base (k + 1) f fd ps sp := by
  obtain ⟨oc, od, kV, doc, pm, an, cdv, ct, osl, rfl, lk, hcd⟩ := F.ex
  constructor
  · exact len
  intro A outer s H args us vs Q E hr hg e0 hb rv hsp
  have kb : ∀ b o, base.get? b = some o → s.heap.get? b = some o := fun b o e => (e0.bs b o e).1
  have hin : K.In s.heap := e0.mod.kin.keeps kb
  have hno : s.heap.NoLimit := e0.mod.nolimit.keeps kb
  have hpar : ∀ y ∈ ps.zip us, (defScope st).names.lookup y.1 = some .local ∨ ((defScope st).names.lookup y.1 = some .cell ∧ ((PySem.cellsFrom (s.heap.objs.size + 1) (defScope st).names []).lookup y.1).isSome = true) := by
    rintro ⟨nm, vl⟩ hy
    cases S.par nm (List.of_mem_zip hy).1 with
    | inl q => exact Or.inl q
    | inr q => exact Or.inr ⟨q, PySem.W.cellsFrom_some _ _ _ (Or.inl q)⟩
  refine codeAny_call_function hr.depth (hin _ _ lk) rfl S.co S.gen rfl (PySem.W.codeRec_of hin hcd) (hb _ _ _ _ ?_)
  refine wpAny_newFunctionEnv_cells S.kind hpar fun env he s1 y => ?_
  subst he
  refine ⟨hno.keeps y.toInCall.keep, codeAny_func ?_⟩
  obtain ⟨t, ht, hq⟩ := hbody cdv A outer s H vs Q E (hr.deeper _) hg hsp
  have I0 := inv_start (CX := L2.CX P w) (E := E) S hr.hd e0 (len _ _ _ _ hsp) rv y
  refine wpAny_mono (ht.run [] s1 (L2.start N vs) H _ I0 hq) ?_ fun _ _ z => z
  intro fl s' hs
  cases fl with
  | next =>
    obtain ⟨σ', H', J, q⟩ := hs
    exact ⟨V.non, H', J.os, J.bare, J.base, J.hok, rfl, q⟩
  | brk => exact (hs.elim fun _ z => z.elim fun _ z => z.2).elim
  | cont => exact (hs.elim fun _ z => z.elim fun _ z => z.2).elim
  | ret u =>
    obtain ⟨v, σ', H', J, ru, q⟩ := hs
    exact ⟨v, H', J.os, J.bare, J.base, J.hok, ru, q⟩
end
section
variable {X : Cx} {k : Nat} {f : Addr} {fd : FuncData} {ps : List Str} {sp : Sp} {E : L2.St → XK}
theorem run_fnG {pins : List (Addr × Obj)} {σ : L2.St} {H : Hp} {s : Shared} {Q : VK} {us : List Value} {vs : List V} (F : FnG X.prog X.w X.K X.mg X.base k f fd ps sp) (hr : Room k X.A) (hg : X.A.guards = some []) (hb : Binds X.K fd ps [])
    (hx : PassesAt (L2.CX X.prog X.w) X σ (E σ)) (I : Inv X pins σ H s) (r : Vals vs us) (h : sp vs H Q (E σ)) : wpAny (model X.prog X.w) X.A (call (.ref f) us) (EP X pins σ Q) X.xe s := by
  have n : us.length = ps.length := r.length.symm.trans (F.len _ _ _ _ h)
  have bd := hb s us I.kIn ((congrArg List.length (List.append_nil us)).trans n)
  simp only [List.append_nil] at bd
  refine wpAny_call (codeAny_mono (F.run X.A X.stack s H ⟨us, []⟩ us vs Q (E σ) hr hg I.env0 bd r h) ?_)
  intro res s' hq
  match res, hq with
  | .error e, hq => exact hx pins H s e s' I hq
  | .ok (.ret u), hq => exact I.after hq
  | .ok .next, hq => exact hq.elim
  | .ok .brk, hq => exact hq.elim
  | .ok .cont, hq => exact hq.elim
theorem pe_callG {x : Str} {e : Expr} {es : List Expr} {p pos : Pos} {t : TA} (F : FnG X.prog X.w X.K X.mg X.base k f fd ps sp) (hr : Room k X.A) (hG : X.A.guards = some []) (hg : Gl X x) (hm : X.mg x = some (.ref f)) (hk : PySem.W.keepIn X.K (.ref f) = true) (hb : Binds X.K fd ps [])
    (hx : ∀ σ, PassesAt (L2.CX X.prog X.w) X σ (E σ)) (ha : PA X (e :: es) t) (hdb : (x == ("__debug__" : Str)) = false := by decide) (he : starEach (e :: es) X.env = (false, eval e X.env) :: starEach es X.env := by rfl)
    (hpl : (backTo pos (starEach es X.env)).any (·.1) = false := by rfl) : PE X (.Call (.Name x p) (e :: es) [] pos) (tCallS sp E t) := by
  constructor
  intro pins s σ H Q I h
  refine wpAny_Call_Name_kw (ld_glob I hg hm (PySem.W.callWith_K (h₀ := X.base) I.ok.mod.kin hk (thn (ha.run pos pins s σ H _ I h) ?_) he hpl) hdb)
  rintro us s1 ⟨vs, H1, I1, r, q⟩
  exact ⟨I1.kIn, run_fnG F hr hG hb (hx σ) I1 r q⟩
end
structure DefOk (P : Program) (w : World) (K : PySem.W.Frag) (mg : Str → Option Value) (base : Heap) (R : Rs) (k : Nat) (x : Str) (ps : List Str) (sp : SpD R) : Prop where
  ex : ∃ f fd, mg x = some (.ref f) ∧ PySem.W.keepIn K (.ref f) = true ∧ Binds K fd ps [] ∧ FnG P w K mg base k f fd ps (spOf K R ps.length sp)
section
variable {P : Program} {w : World} {K : PySem.W.Frag} {mg : Str → Option Value} {base : Heap} {R : Rs} {k : Nat} {x : Str} {ps : List Str} {sp : SpD R}
theorem DefOk.imp {sp' : SpD R} (h : DefOk P w K mg base R k x ps sp) (i : ∀ ds m Q Z, sp' ds m Q Z → sp ds m Q Z) : DefOk P w K mg base R k x ps sp' := by
  obtain ⟨f, fd, a, b, c, F⟩ := h
  refine ⟨f, fd, a, b, c, F.imp fun vs H Q E q => ?_⟩
  obtain ⟨G, m, ds, Qd, Zd, h1, h2, h3, h4, h5⟩ := q
  exact ⟨G, m, ds, Qd, Zd, h1, h2, h3, i _ _ _ _ h4, h5⟩
theorem DefOk.mono {j : Nat} (h : DefOk P w K mg base R j x ps sp) (hj : j ≤ k) : DefOk P w K mg base R k x ps sp := by
  obtain ⟨f, fd, a, b, c, F⟩ := h
  exact ⟨f, fd, a, b, c, F.mono hj⟩
/-- a def that needs no resource, within any -/
abbrev liftSp (sp : SpD R0) : SpD R := fun ds m Q Z => sp ds () (fun d _ => Q d m) fun x _ => Z x m
theorem Hs.lift {m : R.M} {H F H' F' : Hp} (a : Hs0 K R m H F) (b : Hs K R0 ⟨F, H, ()⟩ () H' F') : Hs K R ⟨F, H, m⟩ m H' F' where
  sub := b.sub
  res := R.ext a.res b.fz fun c o _ e => (b.fr c o e fun q => q).1
  vF := fun c hc => by
    obtain ⟨o, e⟩ := R.live a.res hc
    rw [(b.fr c o e fun q => q).2]
    exact a.vF c hc
  fr := fun c o e _ => b.fr c o e fun q => q
  vz := fun c hc => .inl hc
  zH := b.zH
  fz := b.fz
theorem DefOk.lift {sp : SpD R0} (h : DefOk P w K mg base R0 k x ps sp) (R : Rs) : DefOk P w K mg base R k x ps (liftSp sp) := by
  obtain ⟨f, fd, a, b, c, F⟩ := h
  refine ⟨f, fd, a, b, c, F.imp fun vs H Q E q => ?_⟩
  obtain ⟨G, m, ds, Qd, Zd, h1, h2, h3, h4, h5, h6⟩ := q
  exact ⟨G, (), ds, fun d _ => Qd d m, fun x _ => Zd x m, h1, ⟨h2.sub, trivial, fun _ q => q.elim⟩, h3, h4, fun v H' F' m' d I r q => h5 v H' F' m d (I.lift h2) r q, fun x H' F' m' cls d I r q => h6 x H' F' m cls d (I.lift h2) r q⟩
end

theorem DvAll.length {K : PySem.W.Frag} {σ : L2.St} {F : Hp} : ∀ {vs : List V} {ds : List D}, DvAll K σ F vs ds → vs.length = ds.length
  | _, _, .nil => rfl
  | _, _, .cons _ t => by rw [List.length_cons, List.length_cons, DvAll.length t]
section
variable {X : Cx} {W : WX} {R : Rs} {e : Expr} {es : List Expr} {pos p : Pos} {tl : TL R} {k : Nat} {x : Str} {ps : List Str} {sp : SpD R}
theorem Rel.hs0 {K : PySem.W.Frag} {z : Z0 R} {ρ : List En} {m : R.M} {σ : L2.St} {H F : Hp} (I : Rel K R z ρ m σ H F) : Hs0 K R m H F := ⟨I.sub, I.res, I.vF⟩
theorem Rel.called {K : PySem.W.Frag} {z : Z0 R} {ρ : List En} {m m' : R.M} {σ : L2.St} {H F H' F' : Hp} (I : Rel K R z ρ m σ H F) (b : Hs K R ⟨F, H, m⟩ m' H' F') : Rel K R z ρ m' σ H' F' ∧ Mv R ρ m σ H F ρ m' σ H' F' := by
  have nv : ∀ a o, z.H a = some o → ¬ R.vol z.m a → ¬ R.vol m a := fun a o e n q => by
    rcases I.vz a q with h | h
    · exact n h
    · rw [e] at h; cases h
  refine ⟨⟨⟨b.sub, b.res, b.vF, fun a o e n => ?_, fun a q => ?_, fun a o e => ?_, I.fz.trans b.fz⟩, I.len, fun i e he => ?_, I.apart, fun a i xs hv e q => ?_⟩, ⟨b.fz, b.zH, fun a o e n => ?_⟩⟩
  · obtain ⟨h1, h2⟩ := I.fr a o e n
    obtain ⟨h3, h4⟩ := b.fr a o h1 (nv a o e n)
    exact ⟨h3, h4.trans h2⟩
  · rcases b.vz a q with h | h
    · exact I.vz a h
    · exact .inr (I.newH h).2.1
  · obtain ⟨o', e'⟩ := I.zH a o e
    exact b.zH a o' e'
  · obtain ⟨v, h1, h2⟩ := I.var i e he
    refine ⟨v, h1, h2.up b.fz fun a xs e0 ho e1 e2 _ => ?_⟩
    obtain ⟨ys, rfl⟩ := ho
    have n : ¬ R.vol m a := fun q => I.vO a i ys q he (by rw [h1, e0])
    obtain ⟨h3, h4⟩ := b.fr a _ e1 n
    exact ⟨h3, h4.trans e2⟩
  · rcases b.vz a hv with h | h
    · exact I.vO a i xs h e q
    · obtain ⟨a', ys, h1, h2, _⟩ := I.own_at e
      rw [q] at h1
      cases h1
      have h' : H a = none := h
      rw [h'] at h2
      cases h2
  · obtain ⟨h3, h4⟩ := b.fr a o e n.1
    refine ⟨h3, h4, fun q => ?_, n.2⟩
    rcases b.vz a q with h | h
    · exact n.1 h
    · have h' : H a = none := h
      rw [h'] at e
      cases e
/-- f(e, ..) -/
def eCall (sp : SpD R) (t : TL R) : TD R := fun Z ρ m Q => t Z ρ m fun ds ρ1 m1 => Firms ds ∧ sp ds m1 (fun d m2 => Q d ρ1 m2) fun x m2 => Z x ρ1 m2
theorem se_call {ta : TA} {n : Nat} (s1 : SA X.K W R ta tl n) : SE X.K W R (tCallS (spOf X.K R n sp) (WE W) ta) (eCall sp tl) := fun z Z ρ m σ H F Q Qh hz I h q => by
  refine s1 z Z ρ m σ H F _ _ hz I h fun vs H1 F1 ρ1 m1 ds I1 f1 r1 hn h1 => ?_
  refine ⟨F1, m1, ds, fun d m2 => Q d ρ1 m2, fun x m2 => Z x ρ1 m2, hn, I1.hs0, r1.dr h1.1, h1.2, fun v H' F' m' d b r hq => ?_, fun x H' F' m' cls d b r hq => ?_⟩
  · obtain ⟨J, mv⟩ := I1.called b
    exact q v H' F' ρ1 m' d J (f1.trans mv) r.dv hq
  · obtain ⟨J, mv⟩ := I1.called b
    exact hz x ρ1 m' σ H' F' cls d J r hq
theorem de_call (D : DefOk X.prog X.w X.K X.mg X.base R k x ps sp) (hr : Room k X.A) (hG : X.A.guards = some []) (hg : Gl X x) (tk : Takes X W) (ha : DA X W R (e :: es) tl) (hl : (e :: es).length = ps.length := by rfl) (hdb : (x == ("__debug__" : Str)) = false := by decide)
    (he : starEach (e :: es) X.env = (false, eval e X.env) :: starEach es X.env := by rfl) (hpl : (backTo pos (starEach es X.env)).any (·.1) = false := by rfl) : DE X W R (.Call (.Name x p) (e :: es) [] pos) (eCall sp tl) := by
  obtain ⟨f, fd, hm, hk, hb, F⟩ := D
  obtain ⟨_, p1, s1⟩ := ha
  rw [hl] at s1
  exact ⟨_, pe_callG F hr hG hg hm hk hb (fun σ => passAt tk σ) p1 hdb he hpl, se_call s1⟩
end

/-! ### a def's body -/
def startE (n : Nat) (ds : List D) : List En := ds.map .dat ++ List.replicate (n - ds.length) .un
theorem start_rel {K : PySem.W.Frag} {R : Rs} {N : List Str} {vs : List V} {ds : List D} {m : R.M} {H F : Hp} (h : Hs0 K R m H F) (r : DrAll K F vs ds) : Rel K R ⟨F, H, m⟩ (startE N.length ds) m (L2.start N vs) H F := by
  have hl := r.length
  have noOwn : ∀ (i : Nat) (xs : List D), (startE N.length ds)[i]? ≠ some (.own xs) := fun i xs e => by
    unfold startE at e
    rw [List.getElem?_append] at e
    split at e
    · rw [List.getElem?_map] at e
      cases q : ds[i]? with
      | none => rw [q] at e; cases e
      | some d => rw [q] at e; cases e
    · rw [List.getElem?_replicate] at e
      split at e <;> cases e
  refine ⟨⟨h.sub, h.res, h.vF, fun a o e _ => ⟨e, rfl⟩, fun a q => .inl q, fun a o e => ⟨o, e⟩, Same.refl F⟩, ?_, fun i e he => ?_, fun i j a xs ys e1 => absurd e1 (noOwn i xs), fun a i xs _ e => absurd e (noOwn i xs)⟩
  · simp [startE, L2.start, hl]
  · unfold startE at he
    unfold L2.start
    rw [List.getElem?_append] at he ⊢
    rw [List.length_map] at he ⊢
    rw [hl]
    split at he
    · rename_i hi
      rw [if_pos hi, List.getElem?_map]
      rw [List.getElem?_map] at he
      cases q : ds[i]? with
      | none => rw [q] at he; cases he
      | some d =>
        rw [q] at he
        cases he
        obtain ⟨v, h1, h2⟩ := r.get q
        exact ⟨some v, by rw [h1]; rfl, v, rfl, h2⟩
    · rename_i hi
      rw [if_neg hi]
      rw [List.getElem?_replicate] at he ⊢
      split at he
      · cases he
        rename_i hj
        rw [if_pos hj]
        exact ⟨_, rfl, trivial⟩
      · cases he
section
variable {P : Program} {w : World} {K : PySem.W.Frag} {mg : Str → Option Value} {base : Heap} {R : Rs} {k : Nat} {x qual : Str} {ps N : List Str} {sp : SpD R} {st : Stmt} {f : Addr} {fd : FuncData}
/-- the context of a def's body -/
abbrev bodyX (P : Program) (w : World) (K : PySem.W.Frag) (mg : Str → Option Value) (base : Heap) (N : List Str) (qual : Str) (st : Stmt) (f : Addr) (cdv : Value) (A : Around) (outer : List Env) (s : Shared) (H : Hp) (E : XK) : Cx :=
  cxOf (L2.CX P w) P w K mg base N qual (defScope st) f cdv A outer s H E
abbrev bodyW (E : XK) : WX := fun cls d _ H => E cls d H
/-- a def of the text -/
structure TopDef (K : PySem.W.Frag) (mg : Str → Option Value) (x : Str) (st : Stmt) : Prop where
  ex : ∃ f fd, mg x = some (.ref f) ∧ Fun K x x st f fd
theorem DefOk.mk' {t : TSd R} (T : TopDef K mg x st) (S : FnScope N ps (defScope st))
    (hbind : ∀ (kV doc pm : Value) (an : Option Addr) (cdv ct : Value) (us : List Value), us.length = ps.length → bindArgs (PySem.W.fnOf x x (defArgs st) (defBody st) (defScope st) .none kV doc pm an cdv ct) ⟨us, []⟩ = pure (ps.zip us))
    (hbody : ∀ (f : Addr) (cdv : Value) (A : Around) (outer : List Env) (s : Shared) (H : Hp) (E : XK), Room k (A.deeper (PyProof.Rows.envOfC x (defScope st) s.heap.objs.size f cdv)) → A.guards = some [] →
      Takes (bodyX P w K mg base N x st f cdv A outer s H E) (bodyW E) → DSs (bodyX P w K mg base N x st f cdv A outer s H E) (bodyW E) R (defBody st) t)
    (hsp : ∀ ds m Q Z, ds.length = ps.length → sp ds m Q Z → t { nx := fun _ m => Q .non m, rt := Q, rz := fun x _ m => Z x m } (startE N.length ds) m) : DefOk P w K mg base R (k + 1) x ps sp := by
  obtain ⟨f, fd, hm, F⟩ := T
  refine ⟨f, fd, hm, F.kp, F.binds hbind, fnG_of F S (fun vs H Q E h => ?_) fun cdv A outer s H vs Q E hr hG h => ?_⟩
  · obtain ⟨_, _, _, _, _, h, _⟩ := h
    exact h
  · obtain ⟨G, m, ds, Qd, Zd, hl, h0, r, hq, h1, h2⟩ := h
    obtain ⟨ts, p1, s1⟩ := hbody f cdv A outer s H E hr hG (takes_of rfl rfl rfl rfl)
    refine ⟨ts, p1, s1 ⟨G, H, m⟩ (startE N.length ds) m (L2.start N vs) H G { nx := fun _ m => Qd .non m, rt := Qd, rz := fun x _ m => Zd x m } _ ⟨fun ρ m' σ H' F' I _ q => ?_, fun d ρ m' v σ H' F' I _ rv q => ?_, fun _ _ _ _ _ _ _ q => q, fun _ _ _ _ _ _ _ q => q, fun x ρ m' σ H' F' cls d I rx q => ?_⟩ (start_rel h0 r) (hsp ds m Qd Zd (by rw [← r.length]; exact hl) hq)⟩
    · exact h1 .non H' F' m' .non I.toHs .non q
    · exact h1 v H' F' m' d I.toHs rv q
    · exact h2 x H' F' m' cls d I.toHs rx q
end
end DL

/-! Data layer: more built-ins, name op= e, lists that shrink. -/
namespace DL
open PySem L2
section
variable {X : Cx} {W : WX} {R : Rs} {a b e : Expr} {es : List Expr} {pos p : Pos} {te ta tb : TD R} {tl : TL R} {x : Str}
/-! ### name op= e -/
def sAug (i : Nat) (o : D2) (t : TD R) : TSd R := fun D ρ m => match nth ρ i with
  | .dat x => x.firm ∧ t D.rz ρ m fun y ρ1 m1 => o (R.view m1) ρ1 x y fun d => D.nx (ρ1.set i (.dat d)) m1
  | _ => False
theorem ds_aug {i : Nat} {op : Operator} {r : R2} {o : D2} {pos' : Pos} (ho : OpR X (inplaceOp op) r) (L : OpL X.K R r o) (hN : X.N.Nodup) (hi : X.N[i]? = some x) (hx : Loc X.env.scope x) (he : DE X W R e te)
    (hf : X.fn x = true ∨ X.env.scope.names.lookup x = some .local := by first | exact .inl rfl | exact .inr rfl | assumption) : DS X W R (.AugAssign (.Name x pos') op e pos) (sAug i o te) := by
  obtain ⟨_, p1, s1⟩ := he
  refine ⟨_, ps_aug hN hi hx p1 ho hf, fun z ρ m σ H F D Dh M I h => ?_⟩
  unfold sAug at h
  split at h
  · rename_i d e1
    obtain ⟨v, h1, h2⟩ := I.dat_at (nth_get e1 (fun q => nomatch q))
    refine ⟨v, h1, s1 z D.rz ρ m σ H F _ _ M.rz I h.2 fun u H1 F1 ρ1 m1 y I1 f1 r1 hq => ?_⟩
    exact L z ρ1 m1 σ H1 F1 v u d y _ _ I1 (h2.up f1.same).dv r1 hq fun w H' F' d' J mv rd hn => M.nx _ m1 _ H' F' (J.setDat i rd) (f1.same.trans mv.same) hn
  · exact h.elim
def iopl_I0 {f : Int → Int → V} {g : Int → Int → D} (h : ∀ K F i j, Dr K F (f i j) (g i j)) : OpL X.K R (rI0 f) (dI0 g) := opl_I0 h
def rIopAdd : R2 := rOr (rI0 fun i j => .int (i + j)) rAddS
def dIopAdd : D2 := fun _ _ x y Q => match x, y with
  | .int i, .int j => Q (.int (i + j))
  | .str i, .str j => i.length + j.length ≤ sizeLine ∧ Q (.str (i ++ j))
  | _, _ => False
theorem opl_iopAdd : OpL X.K R rIopAdd dIopAdd := fun z ρ m σ H F v u x y Q Qh I rx ry h0 q => by
  unfold dIopAdd at h0
  split at h0
  · exact .inl ⟨_, _, rx.int, ry.int, q _ H F _ I Mv.refl (.int _) h0⟩
  · exact .inr ⟨_, _, rx.str, ry.str, h0.1, q _ H F _ I Mv.refl (.str _) h0.2⟩
  · exact h0.elim
section
variable {i : Nat} {pos' : Pos}
theorem ds_augAdd (hN : X.N.Nodup) (hi : X.N[i]? = some x) (hx : Loc X.env.scope x) (he : DE X W R e te) (hf : X.fn x = true ∨ X.env.scope.names.lookup x = some .local := by first | exact .inl rfl | exact .inr rfl | assumption) :
    DS X W R (.AugAssign (.Name x pos') .Add e pos) (sAug i dIopAdd te) := ds_aug (opr_or iop_add iop_add_str) opl_iopAdd hN hi hx he hf
theorem ds_augSub (hN : X.N.Nodup) (hi : X.N[i]? = some x) (hx : Loc X.env.scope x) (he : DE X W R e te) (hf : X.fn x = true ∨ X.env.scope.names.lookup x = some .local := by first | exact .inl rfl | exact .inr rfl | assumption) :
    DS X W R (.AugAssign (.Name x pos') .Sub e pos) (sAug i dSub te) := ds_aug iop_sub (opl_I0 fun _ _ _ _ => .int _) hN hi hx he hf
theorem ds_augMul (hN : X.N.Nodup) (hi : X.N[i]? = some x) (hx : Loc X.env.scope x) (he : DE X W R e te) (hf : X.fn x = true ∨ X.env.scope.names.lookup x = some .local := by first | exact .inl rfl | exact .inr rfl | assumption) :
    DS X W R (.AugAssign (.Name x pos') .Mult e pos) (sAug i dMul te) := ds_aug iop_mul (opl_I fun _ _ _ _ => .int _) hN hi hx he hf
theorem ds_augDiv (hN : X.N.Nodup) (hi : X.N[i]? = some x) (hx : Loc X.env.scope x) (he : DE X W R e te) (hf : X.fn x = true ∨ X.env.scope.names.lookup x = some .local := by first | exact .inl rfl | exact .inr rfl | assumption) :
    DS X W R (.AugAssign (.Name x pos') .FloorDiv e pos) (sAug i dDiv te) := ds_aug iop_fdivW (opl_I fun _ _ _ _ => .int _) hN hi hx he hf
end

/-! ### built-ins of ints -/
def dInt1 (f : Int → D) : DL1 := fun _ _ ds Q => match ds with
  | [.int i] => Q (f i)
  | _ => False
def dInt2 (f : Int → Int → D) : DL1 := fun _ _ ds Q => match ds with
  | [.int i, .int j] => Q (f i j)
  | _ => False
theorem cl_int1 {f : Int → V} {g : Int → D} (h : ∀ K F i, Dr K F (f i) (g i)) : ClL X R (fun xs H Q => ∃ i, xs = [.int i] ∧ Q (f i) H) (dInt1 g) := fun z ρ m σ H F vs ds Q Qh I rs h0 q => by
  unfold dInt1 at h0
  split at h0
  · obtain ⟨v, rfl, r⟩ := rs.one
    obtain rfl := r.int
    exact ⟨_, rfl, q _ H F _ I Mv.refl (h _ _ _) h0⟩
  · exact h0.elim
theorem cl_int2 {f : Int → Int → V} {g : Int → Int → D} (h : ∀ K F i j, Dr K F (f i j) (g i j)) : ClL X R (fun xs H Q => ∃ i j, xs = [.int i, .int j] ∧ Q (f i j) H) (dInt2 g) := fun z ρ m σ H F vs ds Q Qh I rs h0 q => by
  unfold dInt2 at h0
  split at h0
  · obtain ⟨v, v', rfl, r, r'⟩ := rs.two
    obtain rfl := r.int
    obtain rfl := r'.int
    exact ⟨_, _, rfl, q _ H F _ I Mv.refl (h _ _ _ _) h0⟩
  · exact h0.elim
def dToInt : DL1 := fun _ _ ds Q => match ds with
  | [.int i] => Q (.int i)
  | [.bl k] => Q (.int (if k then 1 else 0))
  | _ => False
theorem cl_toInt : ClL X R (fun xs H Q => (∃ i, xs = [.int i] ∧ Q (.int i) H) ∨ ∃ k, xs = [.bl k] ∧ Q (.int (if k then 1 else 0)) H) dToInt := fun z ρ m σ H F vs ds Q Qh I rs h0 q => by
  unfold dToInt at h0
  split at h0
  · obtain ⟨v, rfl, r⟩ := rs.one
    obtain rfl := r.int
    exact .inl ⟨_, rfl, q _ H F _ I Mv.refl (.int _) h0⟩
  · obtain ⟨v, rfl, r⟩ := rs.one
    obtain rfl := r.bl
    exact .inr ⟨_, rfl, q _ H F _ I Mv.refl (.int _) h0⟩
  · exact h0.elim
variable (he : starEach [e] X.env = (false, eval e X.env) :: starEach [] X.env := by rfl) (hpl : (backTo pos (starEach [] X.env)).any (·.1) = false := by rfl)
theorem de_toInt (hg : Gl X "int") (hm : X.mg "int" = none) (ha : DA X W R [e] tl) (he : starEach [e] X.env = (false, eval e X.env) :: starEach [] X.env := by rfl) (hpl : (backTo pos (starEach [] X.env)).any (·.1) = false := by rfl) : DE X W R (.Call (.Name "int" p) [e] [] pos) (eCl dToInt tl) :=
  de_callTy call_int1 cl_toInt hg hm (by decide +kernel) ha (he := he) (hpl := hpl)
abbrev dAbs : DL1 := dInt1 fun i => .int (if i < 0 then -i else i)
theorem de_abs (hg : Gl X "abs") (hm : X.mg "abs" = none) (ha : DA X W R [e] tl) (he : starEach [e] X.env = (false, eval e X.env) :: starEach [] X.env := by rfl) (hpl : (backTo pos (starEach [] X.env)).any (·.1) = false := by rfl) : DE X W R (.Call (.Name "abs" p) [e] [] pos) (eCl dAbs tl) :=
  de_callB call_abs (cl_int1 fun _ _ _ => .int _) hg hm (by decide +kernel) ha (he := he) (hpl := hpl)
abbrev dMax2 : DL1 := dInt2 fun i j => .int (if j > i then j else i)
abbrev dMin2 : DL1 := dInt2 fun i j => .int (if j < i then j else i)
theorem de_max2 (hc : X.calm = true) (hg : Gl X "max") (hm : X.mg "max" = none) (ha : DA X W R [a, b] tl) (he : starEach [a, b] X.env = (false, eval a X.env) :: starEach [b] X.env := by rfl) (hpl : (backTo pos (starEach [b] X.env)).any (·.1) = false := by rfl) : DE X W R (.Call (.Name "max" p) [a, b] [] pos) (eCl dMax2 tl) :=
  de_callB (call_max2 hc) (cl_int2 fun _ _ _ _ => .int _) hg hm (by decide +kernel) ha (he := he) (hpl := hpl)
theorem de_min2 (hc : X.calm = true) (hg : Gl X "min") (hm : X.mg "min" = none) (ha : DA X W R [a, b] tl) (he : starEach [a, b] X.env = (false, eval a X.env) :: starEach [b] X.env := by rfl) (hpl : (backTo pos (starEach [b] X.env)).any (·.1) = false := by rfl) : DE X W R (.Call (.Name "min" p) [a, b] [] pos) (eCl dMin2 tl) :=
  de_callB (call_min2 hc) (cl_int2 fun _ _ _ _ => .int _) hg hm (by decide +kernel) ha (he := he) (hpl := hpl)
/-! of a list of ints, of bools -/
theorem DrAll.bls_of {K : PySem.W.Frag} {F : Hp} : ∀ {vs : List V} {ns : List Bool}, DrAll K F vs (ns.map D.bl) → vs = ns.map V.bl
  | [], [], _ => rfl
  | _ :: _, [], h => by cases h
  | [], _ :: _, h => by cases h
  | _ :: _, n :: ns, h => by
    cases h with
    | cons h1 h2 =>
      cases h1
      rw [DrAll.bls_of h2]
      rfl
def dSum : DL1 := fun w ρ ds Q => ∃ (d : D) (ns : List Int), ds = [d] ∧ itemsL w ρ d = some (ns.map .int) ∧ Q (.int ns.sum)
def dMaxL : DL1 := fun w ρ ds Q => ∃ (d : D) (ns : List Int), ds = [d] ∧ itemsL w ρ d = some (ns.map .int) ∧ 0 < ns.length ∧ ∀ m, m ∈ ns → (∀ y, y ∈ ns → y ≤ m) → Q (.int m)
def dMinL : DL1 := fun w ρ ds Q => ∃ (d : D) (ns : List Int), ds = [d] ∧ itemsL w ρ d = some (ns.map .int) ∧ 0 < ns.length ∧ ∀ m, m ∈ ns → (∀ y, y ∈ ns → m ≤ y) → Q (.int m)
def dAll : DL1 := fun w ρ ds Q => ∃ (d : D) (bs : List Bool), ds = [d] ∧ itemsL w ρ d = some (bs.map .bl) ∧ Q (.bl (bs.all id))
def dAny : DL1 := fun w ρ ds Q => ∃ (d : D) (bs : List Bool), ds = [d] ∧ itemsL w ρ d = some (bs.map .bl) ∧ Q (.bl (bs.any id))
theorem ints_at {K : PySem.W.Frag} {z : Z0 R} {ρ : List En} {m : R.M} {σ : L2.St} {H F : Hp} {vs : List V} {d : D} {ns : List Int} (I : Rel K R z ρ m σ H F) (rs : DvAll K σ F vs [d]) (e : itemsL (R.view m) ρ d = some (ns.map .int)) : ∃ a, vs = [.ref a] ∧ SqL K H a (ns.map V.int) := by
  obtain ⟨v, rfl, r⟩ := rs.one
  obtain ⟨a, xs, rfl, hl, ra⟩ := I.listV r e
  rw [ra.ints_of] at hl
  exact ⟨a, rfl, hl⟩
theorem cl_sum : ClL X R (rSum X.K) dSum := fun z ρ m σ H F vs ds Q Qh I rs h0 q => by
  obtain ⟨d, ns, rfl, e, hq⟩ := h0
  obtain ⟨a, rfl, hl⟩ := ints_at I rs e
  exact ⟨a, ns, rfl, hl, q _ H F _ I Mv.refl (.int _) hq⟩
theorem cl_maxL : ClL X R (rMax X.K) dMaxL := fun z ρ m σ H F vs ds Q Qh I rs h0 q => by
  obtain ⟨d, ns, rfl, e, h1, hq⟩ := h0
  obtain ⟨a, rfl, hl⟩ := ints_at I rs e
  exact ⟨a, ns, rfl, hl, h1, fun m a b => q _ H F _ I Mv.refl (.int _) (hq m a b)⟩
theorem cl_minL : ClL X R (rMin X.K) dMinL := fun z ρ m σ H F vs ds Q Qh I rs h0 q => by
  obtain ⟨d, ns, rfl, e, h1, hq⟩ := h0
  obtain ⟨a, rfl, hl⟩ := ints_at I rs e
  exact ⟨a, ns, rfl, hl, h1, fun m a b => q _ H F _ I Mv.refl (.int _) (hq m a b)⟩
theorem bls_at {K : PySem.W.Frag} {z : Z0 R} {ρ : List En} {m : R.M} {σ : L2.St} {H F : Hp} {vs : List V} {d : D} {ns : List Bool} (I : Rel K R z ρ m σ H F) (rs : DvAll K σ F vs [d]) (e : itemsL (R.view m) ρ d = some (ns.map .bl)) : ∃ a, vs = [.ref a] ∧ SqL K H a (ns.map V.bl) := by
  obtain ⟨v, rfl, r⟩ := rs.one
  obtain ⟨a, xs, rfl, hl, ra⟩ := I.listV r e
  rw [ra.bls_of] at hl
  exact ⟨a, rfl, hl⟩
theorem cl_all : ClL X R (rAll X.K) dAll := fun z ρ m σ H F vs ds Q Qh I rs h0 q => by
  obtain ⟨d, ns, rfl, e, hq⟩ := h0
  obtain ⟨a, rfl, hl⟩ := bls_at I rs e
  exact ⟨a, ns, rfl, hl, q _ H F _ I Mv.refl (.bl _) hq⟩
theorem cl_any : ClL X R (rAny X.K) dAny := fun z ρ m σ H F vs ds Q Qh I rs h0 q => by
  obtain ⟨d, ns, rfl, e, hq⟩ := h0
  obtain ⟨a, rfl, hl⟩ := bls_at I rs e
  exact ⟨a, ns, rfl, hl, q _ H F _ I Mv.refl (.bl _) hq⟩
theorem de_sum (hc : X.calm = true) (hg : Gl X "sum") (hm : X.mg "sum" = none) (ha : DA X W R [e] tl) (he : starEach [e] X.env = (false, eval e X.env) :: starEach [] X.env := by rfl) (hpl : (backTo pos (starEach [] X.env)).any (·.1) = false := by rfl) : DE X W R (.Call (.Name "sum" p) [e] [] pos) (eCl dSum tl) :=
  de_callB (cr_sum hc) cl_sum hg hm (by decide +kernel) ha (he := he) (hpl := hpl)
theorem de_maxL (hc : X.calm = true) (hg : Gl X "max") (hm : X.mg "max" = none) (ha : DA X W R [e] tl) (he : starEach [e] X.env = (false, eval e X.env) :: starEach [] X.env := by rfl) (hpl : (backTo pos (starEach [] X.env)).any (·.1) = false := by rfl) : DE X W R (.Call (.Name "max" p) [e] [] pos) (eCl dMaxL tl) :=
  de_callB (cr_max hc) cl_maxL hg hm (by decide +kernel) ha (he := he) (hpl := hpl)
theorem de_minL (hc : X.calm = true) (hg : Gl X "min") (hm : X.mg "min" = none) (ha : DA X W R [e] tl) (he : starEach [e] X.env = (false, eval e X.env) :: starEach [] X.env := by rfl) (hpl : (backTo pos (starEach [] X.env)).any (·.1) = false := by rfl) : DE X W R (.Call (.Name "min" p) [e] [] pos) (eCl dMinL tl) :=
  de_callB (cr_min hc) cl_minL hg hm (by decide +kernel) ha (he := he) (hpl := hpl)
theorem de_all (hc : X.calm = true) (hg : Gl X "all") (hm : X.mg "all" = none) (ha : DA X W R [e] tl) (he : starEach [e] X.env = (false, eval e X.env) :: starEach [] X.env := by rfl) (hpl : (backTo pos (starEach [] X.env)).any (·.1) = false := by rfl) : DE X W R (.Call (.Name "all" p) [e] [] pos) (eCl dAll tl) :=
  de_callB (cr_all hc) cl_all hg hm (by decide +kernel) ha (he := he) (hpl := hpl)
theorem de_any (hc : X.calm = true) (hg : Gl X "any") (hm : X.mg "any" = none) (ha : DA X W R [e] tl) (he : starEach [e] X.env = (false, eval e X.env) :: starEach [] X.env := by rfl) (hpl : (backTo pos (starEach [] X.env)).any (·.1) = false := by rfl) : DE X W R (.Call (.Name "any" p) [e] [] pos) (eCl dAny tl) :=
  de_callB (cr_any hc) cl_any hg hm (by decide +kernel) ha (he := he) (hpl := hpl)

/-! ### - n; [..] * n; pop; extend -/
def eNeg (t : TD R) : TD R := fun Z ρ m Q => t Z ρ m fun d ρ1 m1 => match d with
  | .int i => Q (.int (-i)) ρ1 m1
  | _ => False
theorem de_neg (h : DE X W R a ta) : DE X W R (.UnaryOp .USub a pos) (eNeg ta) := by
  obtain ⟨_, p1, s1⟩ := h
  refine ⟨_, pe_un un_neg p1, fun z Z ρ m σ H F Q Qh hz I h q => ?_⟩
  refine s1 z Z ρ m σ H F _ _ hz I h fun v H1 F1 ρ1 m1 d I1 f1 r1 h1 => ?_
  cases d <;> first | exact h1.elim | skip
  exact ⟨_, r1.int, q _ H1 F1 ρ1 m1 _ I1 f1 (Dr.dv (.int _)) h1⟩
def repD (xs : List D) (k : Int) : List D := (List.replicate k.toNat xs).flatten
theorem DrAll.rep {K : PySem.W.Frag} {F : Hp} {vs : List V} {ds : List D} (r : DrAll K F vs ds) : ∀ n : Nat, DrAll K F (List.replicate n vs).flatten (List.replicate n ds).flatten
  | 0 => .nil
  | n + 1 => by
    rw [List.replicate_succ, List.replicate_succ, List.flatten_cons, List.flatten_cons]
    exact r.append (DrAll.rep r n)
def eRep (t : TL R) (u : TD R) : TL R := fun Z ρ m Q => t Z ρ m fun ds ρ1 m1 => u Z ρ1 m1 fun k ρ2 m2 => match k with
  | .int k => -(2 ^ 63) ≤ k ∧ k < 2 ^ 63 ∧ ds.length * k.toNat ≤ sizeLine ∧ Q (repD ds k) ρ2 m2
  | _ => False
theorem do_rep (ha : DO X W R a tl) (hb : DE X W R b tb) : DO X W R (.BinOp a .Mult b pos) (eRep tl tb) := by
  obtain ⟨_, p1, s1⟩ := ha
  obtain ⟨_, p2, s2⟩ := hb
  refine ⟨_, pe_op op_rep p1 p2, fun z Z ρ m σ H F Q Qh hz I h q => ?_⟩
  refine s1 z Z ρ m σ H F _ _ hz I h fun a xs ds H1 F1 ρ1 m1 I1 f1 hN L hH r1 h1 => ?_
  obtain ⟨J, e⟩ := I1.freeze L hH
  refine s2 z Z ρ1 m1 σ H1 _ _ _ hz J h1 fun u H2 F2 ρ2 m2 d I2 f2 r2 h2 => ?_
  cases d <;> first | exact h2.elim | skip
  rename_i k
  have hr := (r1.up e).up f2.same
  refine ⟨a, k, xs, rfl, r2.int, I2.sub _ _ (f2.same _ _ upd_same), h2.1, h2.2.1, by rw [r1.length]; exact h2.2.2.1, fun p hp => ?_⟩
  have mv := (f1.freeze hN L.fF).trans f2
  exact q p _ _ _ F2 ρ2 m2 (I2.alloc hp) (mv.trans (Mv.alloc hp)) (mv.free hp) (I2.loose_new hp) upd_same (hr.rep k.toNat) h2.2.2.2
def fPopAt : List D → List D → (D → List D → Prop) → Prop := fun xs es Q => match es with
  | [.int i] => small62 i ∧ ∃ k d, seqIndex? i xs.length = some k ∧ xs[k]? = some d ∧ Q d (xs.eraseIdx k)
  | _ => False
theorem DrAll.erase {K : PySem.W.Frag} {F : Hp} : ∀ {vs : List V} {ds : List D} (k : Nat), DrAll K F vs ds → DrAll K F (vs.eraseIdx k) (ds.eraseIdx k)
  | _, _, _, .nil => .nil
  | _, _, 0, .cons _ t => t
  | _, _, k + 1, .cons r t => .cons r (DrAll.erase k t)
theorem de_popAt {i : Nat} {o : Expr} {apos : Pos} (ho : PE X o (tVar i)) (ha : DA X W R [e] tl) (hbase : attributeBase o "pop" X.env (eval o X.env) = eval o X.env := by rfl)
    (hfew : ((backTo pos (starEach [e] X.env)).all (fun x => !x.1) && (backToKw pos (keywordEach [] X.env)).all (fun x => x.1.isSome) && decide ([e].length + ([] : List Keyword).length + (if ([] : List Keyword).isEmpty then 0 else 1) < 30)) = true := by rfl)
    (hline : (apos.endLine == pos.line) = true := by rfl) (hs : starEach [e] X.env = (false, eval e X.env) :: starEach [] X.env := by rfl) (hplain : (backTo pos (starEach [] X.env)).any (·.1) = false := by rfl) :
    DE X W R (.Call (.Attribute o "pop" apos) [e] [] pos) (eOwnM i tl fPopAt) :=
  de_ownM F.slot_list_pop F.type_list_pop mt_popAt (fun F H a vs xs ds es Q Qh hH r rs h0 q => by
    unfold fPopAt at h0
    split at h0
    · rename_i i
      obtain ⟨⟨h1, h2⟩, k, d, h3, h4, h5⟩ := h0
      cases rs with
      | cons rd rn =>
        cases rn
        cases rd
        obtain ⟨v, h6, h7⟩ := r.get h4
        exact ⟨a, xs, i, k, v, rfl, rfl, hH, by omega, by omega, by rw [r.length]; exact h3, h6, q _ _ _ _ h7 (r.erase k) h5⟩
    · exact h0.elim) ho ha hbase hfew hline hs hplain
end
end DL

/-! Data layer: order of data, sorted, repr, isinstance. -/
namespace DL
open PySem L2
theorem u65 {k : Nat} {A : Around} (h : Room k A) : A.units + 65 < cLine := by
  have := h.un
  omega
section
variable {X : Cx} {W : WX} {R : Rs} {a b e : Expr} {es : List Expr} {pos p : Pos} {te ta tb : TD R} {tl : TL R} {x : Str}
/-! ### <= of data -/
def rLeD (K : PySem.W.Frag) : R2 := fun x y H Q => ∃ d e, Dp K H x d ∧ Dp K H y e ∧ PySem.W.alike d e = true ∧ d ≠ .none ∧ d.depth ≤ 60 ∧ Q (.bl (!PySem.W.dataLt e d)) H
theorem op_leD (hu : X.A.units + 64 < cLine) : OpR X (compareOp .LtE) (rLeD X.K) := by
  intro pins s σ H x y v u Q I rx ry h
  obtain ⟨d, e, hd, he, ha, hn, hdep, q⟩ := h
  obtain ⟨as, r1⟩ := Dp.reads I d x v hd rx
  obtain ⟨bs, r2⟩ := Dp.reads I e y u he ry
  exact PySem.W.le_data r1 r2 ha hn (by omega) ⟨.bl _, H, I, rfl, q⟩
def dLeU : D2 := fun w ρ x y Q => match x, y with
  | .int i, .int j => Q (.bl (decide (i ≤ j)))
  | x, y => (flat w ρ x).pl = true ∧ (flat w ρ y).pl = true ∧ PySem.W.alike (flat w ρ x).toP (flat w ρ y).toP = true ∧ (flat w ρ x).toP ≠ .none ∧ (flat w ρ x).toP.depth ≤ 60 ∧ Q (.bl (!PySem.W.dataLt (flat w ρ y).toP (flat w ρ x).toP))
theorem opl_leU : OpL X.K R (rOr (rI0 fun i j => .bl (decide (i ≤ j))) (rLeD X.K)) dLeU := fun z ρ m σ H F v u x y Q Qh I rx ry h0 q => by
  unfold dLeU at h0
  split at h0
  · exact .inl ⟨_, _, rx.int, ry.int, q _ H F _ I Mv.refl (.bl _) h0⟩
  · obtain ⟨p1, p2, h1, h2, h3, hq⟩ := h0
    exact .inr ⟨_, _, I.dp rx p1, I.dp ry p2, h1, h2, h3, q _ H F _ I Mv.refl (.bl _) hq⟩
theorem opr_leU (hu : X.A.units + 64 < cLine) : OpR X (compareOp .LtE) (rOr (rI0 fun i j => .bl (decide (i ≤ j))) (rLeD X.K)) := opr_or op_le (op_leD hu)
theorem de_le (hu : X.A.units + 64 < cLine) (ha : DE X W R a ta) (hb : DE X W R b tb) : DE X W R (.Compare a [.LtE] [b] pos) (eOp dLeU ta tb) := de_cmp (opr_leU hu) opl_leU ha hb (nomark _)
theorem dt_le (hu : X.A.units + 64 < cLine) (ha : DE X W R a ta) (hb : DE X W R b tb) : DT X W R (.Compare a [.LtE] [b] pos) (bOf (eOp dLeU ta tb)) := dt_cmp (opr_leU hu) opl_leU ha hb (nomark _)

/-! ### sorted -/
abbrev leP (a b : V × PyData) : Bool := PySem.W.dataLe false Prod.snd a b
def rSortedD (K : PySem.W.Frag) : List V → Hp → VK → Prop := fun xs H Q => ∃ (a : Addr) (vs : List V) (ps : List PyData), xs = [.ref a] ∧ SqL K H a vs ∧ DpAll K H vs ps ∧ PySem.W.AllAlike ps ∧ PySem.W.Sortable ps ∧ (∀ d ∈ ps, d.depth ≤ 60) ∧
  ∀ q, H q = none → Q (.ref q) (upd H q (.lst (((vs.zip ps).mergeSort leP).map Prod.fst)))
theorem DpAll.length {K : PySem.W.Frag} {H : Hp} : ∀ {vs : List V} {ds : List PyData}, DpAll K H vs ds → vs.length = ds.length
  | _, _, .nil => rfl
  | _, _, .cons _ t => by rw [List.length_cons, List.length_cons, DpAll.length t]
theorem each_zip {K : PySem.W.Frag} {H : Hp} : ∀ {vs : List V} {ps : List PyData} {us : List Value}, Vals vs us → DpAll K H vs ps → PySem.W.EachIs (fun (u : Value) (b : V × PyData) => RelV b.1 u ∧ Dp K H b.1 b.2) us (vs.zip ps)
  | _, _, _, .nil, .nil => .nil
  | _, _, _, .cons r t, .cons d ds => .cons ⟨r, d⟩ (each_zip t ds)
theorem each_vals {K : PySem.W.Frag} {H : Hp} : ∀ {us : List Value} {bs : List (V × PyData)}, PySem.W.EachIs (fun (u : Value) (b : V × PyData) => RelV b.1 u ∧ Dp K H b.1 b.2) us bs → Vals (bs.map Prod.fst) us
  | _, _, .nil => .nil
  | _, _, .cons r t => .cons r.1 (each_vals t)
theorem zip_snd {α β : Type} : ∀ {as : List α} {bs : List β}, as.length = bs.length → (as.zip bs).map Prod.snd = bs
  | [], [], _ => rfl
  | [], _ :: _, h => by cases h
  | _ :: _, [], h => by cases h
  | a :: as, b :: bs, h => by rw [List.zip_cons_cons, List.map_cons, zip_snd (by simpa using h)]
theorem call_sortedAny (hu : X.A.units + 64 < cLine) : CallR X (.builtin "sorted") (rSortedD X.K) := by
  intro pins s σ H xs us Q I r h
  obtain ⟨a, vs, ps, rfl, hl, hp, hal, hs, hd, q⟩ := h
  obtain ⟨u, rfl, rx⟩ := vals1 r
  cases rx
  obtain ⟨its, ri, pl, hz⟩ := I.list hl
  have hlen := DpAll.length hp
  have es := each_zip ri hp
  have e2 : ((vs.zip ps).map Prod.snd) = ps := zip_snd hlen
  refine PySem.W.sorted_data (enc := Prod.snd) (bs := vs.zip ps) pl.isList es (es.mono fun u b hb => Dp.reads I b.2 b.1 u hb.2 hb.1) (by rw [e2]; exact hal) (by rw [e2]; exact hs) (by rw [List.length_zip]; omega) (fun b hb => ?_) fun out ho hout => ?_
  · have : b.2 ∈ ps := by rw [← e2]; exact List.mem_map_of_mem hb
    have := hd _ this
    omega
  · obtain ⟨en, hnew⟩ := PyProof.Rows.sortedAll_at s.heap its (List.toArray out)
    have rv := each_vals hout
    refine ⟨.ref (s.heap.objs.size + 1), _, I.laid (t' := s.toks) (o := .lst (((vs.zip ps).mergeSort leP).map Prod.fst)) (fun c o e => PyProof.Rows.sortedAll_old e) (Nat.le_succ _) ?_, rfl, q _ (I.hok.fresh (Nat.le_succ _))⟩
    refine ⟨by rw [List.length_map, List.length_mergeSort, List.length_zip]; omega, out, en, rv, hnew⟩
def leD (a b : D) : Bool := PySem.W.dataLe false D.toP a b
theorem toPs_map : ∀ ds : List D, toPs ds = ds.map D.toP
  | [] => rfl
  | d :: ds => by rw [toPs, List.map_cons, toPs_map ds]
def dSorted : DLO := fun w ρ ds Q => ∃ d xs, ds = [d] ∧ itemsL w ρ d = some xs ∧ pls xs = true ∧ PySem.W.AllAlike (xs.map D.toP) ∧ PySem.W.Sortable (xs.map D.toP) ∧ (∀ d ∈ xs, d.toP.depth ≤ 60) ∧ Q (xs.mergeSort leD)
theorem drAll_zip {K : PySem.W.Frag} {F : Hp} : ∀ {vs : List V} {ds : List D}, DrAll K F vs ds → ∀ p ∈ vs.zip ds, Dr K F p.1 p.2
  | _, _, .nil, _, h => by cases h
  | _, _, .cons r t, p, h => by
    rcases List.mem_cons.mp h with e | h
    · subst e; exact r
    · exact drAll_zip t p h
theorem drAll_of {K : PySem.W.Frag} {F : Hp} : ∀ {l : List (V × D)}, (∀ p ∈ l, Dr K F p.1 p.2) → DrAll K F (l.map Prod.fst) (l.map Prod.snd)
  | [], _ => .nil
  | p :: l, h => .cons (h p (List.mem_cons_self ..)) (drAll_of fun q hq => h q (List.mem_cons_of_mem _ hq))
theorem zip_toP : ∀ (vs : List V) (ds : List D), vs.zip (ds.map D.toP) = (vs.zip ds).map fun p => (p.1, p.2.toP)
  | [], _ => rfl
  | _ :: _, [] => rfl
  | v :: vs, d :: ds => by rw [List.map_cons, List.zip_cons_cons, List.zip_cons_cons, List.map_cons, zip_toP vs ds]
theorem clo_sorted : ClO X R (rSortedD X.K) dSorted := fun z ρ m σ H F vs ds Q Qh I rs h0 q => by
  obtain ⟨d, xs, rfl, e, hpl, hal, hs, hd, hq⟩ := h0
  obtain ⟨v, rfl, r⟩ := rs.one
  obtain ⟨a, us, rfl, hl, ra⟩ := I.listV r e
  have hp : DpAll X.K H us (toPs xs) := DpAll.up I.sub _ _ (DrAll.dp _ _ ra hpl)
  rw [toPs_map] at hp
  refine ⟨a, us, xs.map D.toP, rfl, hl, hp, hal, hs, fun d hd' => ?_, fun p hp' => ?_⟩
  · obtain ⟨y, hy, rfl⟩ := List.mem_map.mp hd'
    exact hd y hy
  · have e1 : (us.zip (xs.map D.toP)).mergeSort leP = ((us.zip xs).mergeSort fun a b => leD a.2 b.2).map fun p => (p.1, p.2.toP) := by
      rw [zip_toP]
      exact (PySem.W.sort_maps (fun p : V × D => (p.1, p.2.toP)) (fun _ _ _ _ => rfl)).symm
    have e2 : (((us.zip xs).mergeSort fun a b => leD a.2 b.2).map Prod.snd) = xs.mergeSort leD := by
      rw [PySem.W.sort_maps (s := leD) Prod.snd (fun _ _ _ _ => rfl), zip_snd ra.length]
    have e3 : (((us.zip (xs.map D.toP)).mergeSort leP).map Prod.fst) = (((us.zip xs).mergeSort fun a b => leD a.2 b.2).map Prod.fst) := by
      rw [e1, List.map_map]
      rfl
    rw [e3]
    refine q p _ _ _ (I.alloc hp') (Mv.alloc hp') hp' (I.loose_new hp') upd_same ?_ hq
    rw [← e2]
    exact drAll_of fun p hp2 => drAll_zip ra p ((List.mergeSort_perm _ _).mem_iff.mp hp2)
theorem do_sorted (hu : X.A.units + 64 < cLine) (hg : Gl X "sorted") (hm : X.mg "sorted" = none) (ha : DA X W R [e] tl) (he : starEach [e] X.env = (false, eval e X.env) :: starEach [] X.env := by rfl) (hpl : (backTo pos (starEach [] X.env)).any (·.1) = false := by rfl) : DO X W R (.Call (.Name "sorted" p) [e] [] pos) (eClO dSorted tl) :=
  do_callB (call_sortedAny hu) clo_sorted hg hm (by decide +kernel) ha (he := he) (hpl := hpl)

/-! ### repr of lists and tuples -/
def rReprD (K : PySem.W.Frag) : List V → Hp → VK → Prop := fun xs H Q => ∃ (a : Addr) (d : PyData), xs = [.ref a] ∧ Dp K H (.ref a) d ∧ d.showable = true ∧ d.hasDict = false ∧ d.depth ≤ 60 ∧ d.shown.length ≤ sizeLine ∧ Q (.str d.shown) H
theorem call_reprD (hG : X.A.guards = some []) (hu : X.A.units + 64 < cLine) : CallR X (.builtin "repr") (rReprD X.K) := by
  intro pins s σ H xs us Q I r h
  obtain ⟨a, d, rfl, hd, h1, h2, h3, h4, q⟩ := h
  obtain ⟨u, rfl, rx⟩ := vals1 r
  have rx' : u = .ref a := rx
  subst rx'
  obtain ⟨as, rd⟩ := Dp.reads I d (.ref a) (.ref a) hd rfl
  refine repr_of_reads' (h₀ := s.heap) rd h1 (fun q => by rw [h2] at q; cases q) hG (by omega) (fun _ _ e => e) (fun h' t tk hk => ?_) h4
  exact ⟨.str d.shown, H, I.kept (t' := tk) hk, ⟨_, rfl⟩, q⟩
def dRepr : DL1 := fun w ρ ds Q => match ds with
  | [d] => (match flat w ρ d with
    | .lst _ => True
    | .tup _ => True
    | _ => False) ∧ (flat w ρ d).pl = true ∧ (flat w ρ d).toP.showable = true ∧ (flat w ρ d).toP.hasDict = false ∧ (flat w ρ d).toP.depth ≤ 60 ∧ (flat w ρ d).toP.shown.length ≤ sizeLine ∧ Q (.str (flat w ρ d).toP.shown)
  | _ => False
theorem cl_repr : ClL X R (rReprD X.K) dRepr := fun z ρ m σ H F vs ds Q Qh I rs h0 q => by
  unfold dRepr at h0
  split at h0
  · rename_i d
    obtain ⟨v, rfl, r⟩ := rs.one
    obtain ⟨hk, hp, h1, h2, h3, h4, hq⟩ := h0
    have dp := I.dp r hp
    have ha : ∃ a, v = .ref a := by
      cases e : flat (R.view m) ρ d <;> rw [e] at hk dp <;> first | exact hk.elim | skip
      · cases dp; exact ⟨_, rfl⟩
      · cases dp; exact ⟨_, rfl⟩
    obtain ⟨a, rfl⟩ := ha
    exact ⟨a, _, rfl, dp, h1, h2, h3, h4, q _ H F _ I Mv.refl (.str _) hq⟩
  · exact h0.elim
theorem de_repr (hG : X.A.guards = some []) (hu : X.A.units + 64 < cLine) (hg : Gl X "repr") (hm : X.mg "repr" = none) (ha : DA X W R [e] tl) (he : starEach [e] X.env = (false, eval e X.env) :: starEach [] X.env := by rfl) (hpl : (backTo pos (starEach [] X.env)).any (·.1) = false := by rfl) : DE X W R (.Call (.Name "repr" p) [e] [] pos) (eCl dRepr tl) :=
  de_callB (call_reprD hG hu) cl_repr hg hm (by decide +kernel) ha (he := he) (hpl := hpl)

/-! ### isinstance with a built-in class -/
inductive Kd where
  | non | bl | int | str | lst | tup
def Kd.name : Kd → String
  | .non => "NoneType" | .bl => "bool" | .int => "int" | .str => "str" | .lst => "list" | .tup => "tuple"
def Kd.isa : Kd → Kd → Bool
  | .non, .non => true | .bl, .bl => true | .bl, .int => true | .int, .int => true | .str, .str => true | .lst, .lst => true | .tup, .tup => true
  | _, _ => false
theorem Kd.isa_ok : ∀ a b : Kd, b.name ≠ "NoneType" → kitB a.name b.name = some (a.isa b)
  | a, b, h => by cases b <;> first | exact absurd rfl h | (cases a <;> decide +kernel)
def kd (w : Vw) (ρ : List En) (d : D) : Option Kd := match flat w ρ d with
  | .non => some .non
  | .bl _ => some .bl
  | .int _ => some .int
  | .str _ => some .str
  | .lst _ => some .lst
  | .tup _ => some .tup
  | _ => none
theorem tyx_l {K : PySem.W.Frag} {H : Hp} {a : Addr} {xs : List V} (h : SqL K H a xs) : TyX K H (.ref a) (.type "list") := by
  rcases h with (h | ⟨o, h⟩) | ⟨o, _, _, h, c, _⟩
  · exact .base (.lst h)
  · exact .base (.frz h)
  · exact .kList h c
theorem tyx_t {K : PySem.W.Frag} {H : Hp} {a : Addr} {xs : List V} (h : SqT K H a xs) : TyX K H (.ref a) (.type "tuple") := by
  rcases h with (h | ⟨o, h⟩) | ⟨o, _, _, h, c, _⟩
  · exact .base (.tup h)
  · exact .fTuple h
  · exact .kTuple h c
theorem Rel.kd_ty {K : PySem.W.Frag} {z : Z0 R} {ρ : List En} {m : R.M} {σ : L2.St} {H F : Hp} (I : Rel K R z ρ m σ H F) {v : V} {d : D} {k : Kd} (r : Dv K σ F v d) (h : kd (R.view m) ρ d = some k) : TyX K H v (.type k.name) := by
  have lst : ∀ xs, itemsL (R.view m) ρ d = some xs → TyX K H v (.type "list") := fun xs e => by
    obtain ⟨a, us, rfl, hl, _⟩ := I.listV r e
    exact tyx_l hl
  cases d with
  | non => cases h; obtain rfl := r.non; exact .base .non
  | bl b => cases h; obtain rfl := r.bl; exact .base (.bl b)
  | int i => cases h; obtain rfl := r.int; exact .base (.int i)
  | str i => cases h; obtain rfl := r.str; exact .base (.str i)
  | lst xs => cases h; exact lst xs rfl
  | tup xs =>
    cases h
    obtain ⟨a, us, rfl, ht, _⟩ := r.tup
    exact tyx_t (Same.sqT I.sub ht)
  | raw w =>
    cases w with
    | ref a =>
      cases q : R.view m a with
      | none => simp [kd, flat, q] at h
      | some xs =>
        have h' : Kd.lst = k := by simpa [kd, flat, q] using h
        subst h'
        exact lst xs (by simp [itemsL, q])
    | _ => cases h
  | slot i =>
    cases q : nth ρ i with
    | un => simp [kd, flat, q] at h
    | dat e => simp [kd, flat, q] at h
    | own xs =>
      have h' : Kd.lst = k := by simpa [kd, flat, q] using h
      subst h'
      exact lst xs (by simp [itemsL, q])
def eIsi (n : Kd) (t : TD R) : TD R := fun Z ρ m Q => t Z ρ m fun d ρ1 m1 => match kd (R.view m1) ρ1 d with
  | some k => Q (.bl (k.isa n)) ρ1 m1
  | none => False
theorem de_isinst {n : Kd} {y : Str} {p2 : Pos} (hg : Gl X "isinstance") (hm : X.mg "isinstance" = none) (hy : Gl X y) (hmy : X.mg y = none) (hv : bootBuiltins y = some (.type n.name)) (hn : n.name ≠ "NoneType") (ha : DE X W R e te) (hyn : y ≠ "__name__" := by decide) (hyd : (y == ("__debug__" : Str)) = false := by decide)
    (he : starEach [e, .Name y p2] X.env = (false, eval e X.env) :: starEach [.Name y p2] X.env := by rfl) (he2 : starEach [.Name y p2] X.env = (false, eval (.Name y p2) X.env) :: starEach [] X.env := by rfl) (hpl : (backTo pos (starEach [.Name y p2] X.env)).any (·.1) = false := by rfl) :
    DE X W R (.Call (.Name "isinstance" p) [e, .Name y p2] [] pos) (eIsi n te) := by
  obtain ⟨_, p1, s1⟩ := ha
  refine ⟨_, pe_callB call_isi hg hm (by decide +kernel) (pa_cons p1 (pa_cons (pe_bltn (v := .ty n.name) hy hmy hv rfl hyn hyd) pa_nil he2) he) (he := he) (hpl := hpl), fun z Z ρ m σ H F Q Qh hz I h q => ?_⟩
  refine s1 z Z ρ m σ H F _ _ hz I h fun v H1 F1 ρ1 m1 d I1 f1 r1 h1 => ?_
  cases e : kd (R.view m1) ρ1 d with
  | none => rw [e] at h1; exact h1.elim
  | some k =>
    rw [e] at h1
    exact ⟨v, .ty n.name, _, _, _, rfl, .ty _, I1.kd_ty r1 e, kit_ty (Kd.isa_ok k n hn), q _ H1 F1 ρ1 m1 _ I1 f1 (Dr.dv (.bl _)) h1⟩
end
end DL

/-! Data layer: the laws' draws as a resource, the end of a law. -/
namespace DL
open PySem L2
/-- the state of the draws: a list of a list of numbers and a number -/
structure Dst (s c : Addr) (H : Hp) : Prop where
  ne : s ≠ c
  ex : ∃ (cells : List Int) (sd : Int), H s = some (.lst [.ref c, .int sd]) ∧ H c = some (.lst (cells.map V.int)) ∧ (∀ x ∈ cells, 0 ≤ x) ∧ 0 ≤ sd ∧ sd < 2147483648
/-- a thing that may change: a list, an instance -/
inductive Cell where
  | lst (xs : List D)
  | ins (C : Addr) (fs : List (Str × D))
/-- the fields of an instance -/
inductive FsRel (K : PySem.W.Frag) (F : Hp) : List (Str × V) → List (Str × D) → Prop
  | nil : FsRel K F [] []
  | cons {f : Str} {v : V} {d : D} {fvs : List (Str × V)} {fs : List (Str × D)} : Dr K F v d → FsRel K F fvs fs → FsRel K F ((f, v) :: fvs) ((f, d) :: fs)
theorem FsRel.up {K : PySem.W.Frag} {F F' : Hp} (s : Same F F') : ∀ {fvs : List (Str × V)} {fs : List (Str × D)}, FsRel K F fvs fs → FsRel K F' fvs fs
  | _, _, .nil => .nil
  | _, _, .cons r t => .cons (r.up s) (FsRel.up s t)
def CellOk (K : PySem.W.Frag) (F H : Hp) (a : Addr) : Cell → Prop
  | .lst xs => ∃ vs, H a = some (.lst vs) ∧ DrAll K F vs xs
  | .ins C fs => ∃ dx fvs, H a = some (.ins C dx fvs) ∧ FsRel K F fvs fs
theorem CellOk.up {K : PySem.W.Frag} {F F' H H' : Hp} {a : Addr} {c : Cell} (h : CellOk K F H a c) (s : Same F F') (k : ∀ o, H a = some o → H' a = some o) : CellOk K F' H' a c := by
  cases c with
  | lst xs => obtain ⟨vs, h1, h2⟩ := h; exact ⟨vs, k _ h1, h2.up s⟩
  | ins C fs => obtain ⟨dx, fvs, h1, h2⟩ := h; exact ⟨dx, fvs, k _ h1, h2.up s⟩
theorem CellOk.live {K : PySem.W.Frag} {F H : Hp} {a : Addr} {c : Cell} (h : CellOk K F H a c) : ∃ o, H a = some o := by
  cases c with
  | lst xs => obtain ⟨vs, h1, h2⟩ := h; exact ⟨_, h1⟩
  | ins C fs => obtain ⟨dx, fvs, h1, h2⟩ := h; exact ⟨_, h1⟩
/-- the draws' state, if there is one; the cells -/
structure Ms where
  d : Option (Addr × Addr)
  μ : Addr → Option Cell
def Ms.put (m : Ms) (a : Addr) (c : Cell) : Ms := ⟨m.d, fun b => if b = a then some c else m.μ b⟩
def Ms.del (m : Ms) (a : Addr) : Ms := ⟨m.d, fun b => if b = a then none else m.μ b⟩
def isDr (d : Option (Addr × Addr)) (a : Addr) : Prop := match d with
  | none => False
  | some p => a = p.1 ∨ a = p.2
def drOk (d : Option (Addr × Addr)) (H : Hp) : Prop := match d with
  | none => True
  | some p => Dst p.1 p.2 H
structure MsOk (K : PySem.W.Frag) (F : Hp) (m : Ms) (H : Hp) : Prop where
  dr : drOk m.d H
  ap : ∀ a, isDr m.d a → m.μ a = none
  cell : ∀ a c, m.μ a = some c → CellOk K F H a c
theorem drOk.live {d : Option (Addr × Addr)} {H : Hp} {a : Addr} (h : drOk d H) (hv : isDr d a) : ∃ o, H a = some o := by
  cases d with
  | none => exact hv.elim
  | some p =>
    have h' : Dst p.1 p.2 H := h
    obtain ⟨cells, sd, h1, h2, _⟩ := h'.ex
    rcases hv with e | e
    · exact ⟨_, by rw [e]; exact h1⟩
    · exact ⟨_, by rw [e]; exact h2⟩
theorem drOk.ext {d : Option (Addr × Addr)} {H H' : Hp} (h : drOk d H) (k : ∀ a o, isDr d a → H a = some o → H' a = some o) : drOk d H' := by
  cases d with
  | none => trivial
  | some p =>
    have h' : Dst p.1 p.2 H := h
    obtain ⟨cells, sd, h1, h2, h3⟩ := h'.ex
    exact ⟨h'.ne, cells, sd, k _ _ (.inl rfl) h1, k _ _ (.inr rfl) h2, h3⟩
def Ms.vol (m : Ms) (a : Addr) : Prop := isDr m.d a ∨ ∃ c, m.μ a = some c
def Ms.view (m : Ms) (a : Addr) : Option (List D) := match m.μ a with
  | some (.lst xs) => some xs
  | _ => none
def RD : Rs where
  M := Ms
  vol := Ms.vol
  ok := MsOk
  live := fun {K F m H a} h hv => by
    rcases hv with hv | ⟨c, e⟩
    · exact h.dr.live hv
    · exact (h.cell a c e).live
  ext := fun {K F F' m H H'} h s k => ⟨h.dr.ext fun a o q e => k a o (.inl q) e, h.ap, fun a c e => (h.cell a c e).up s fun o q => k a o (.inr ⟨c, e⟩) q⟩
  view := Ms.view
  see := fun {K F m H a ds} h e => by
    unfold Ms.view at e
    split at e
    · rename_i xs q
      cases e
      exact h.cell a _ q
    · cases e
/-- a draw: the state's place, how many -/
def sp_draw : SpD RD := fun ds m Q _ => ∃ (s c : Addr) (many : Int), ds = [.raw (.ref s), .int many] ∧ m.d = some (s, c) ∧ 0 < many ∧ many < 2 ^ 64 ∧ ∀ r : Int, 0 ≤ r → r < many → Q (.int r) m
/-- nothing is drawn, nothing may change -/
abbrev m00 : Ms := ⟨none, fun _ => none⟩
section
variable {X : Cx} {W : WX} {a b : Expr} {tl : TL RD} {tb : TD RD} {pos pos' : Pos}
/-- return [[..], n]: a new state of draws -/
def sRetSt (tl : TL RD) (tb : TD RD) : TSd RD := fun G ρ m => tl G.rz ρ m fun xs ρ1 m1 => tb G.rz ρ1 m1 fun y _ m2 => match y with
  | .int sd => (∃ ns : List Int, xs = ns.map D.int ∧ ∀ n ∈ ns, 0 ≤ n) ∧ 0 ≤ sd ∧ sd < 2147483648 ∧ m2.d = none ∧ ∀ s c : Addr, m2.μ s = none → m2.μ c = none → G.rt (.raw (.ref s)) ⟨some (s, c), m2.μ⟩
  | _ => False
theorem ds_retSt (ha : DO X W RD a tl) (hb : DE X W RD b tb) (h1 : starEach [a, b] X.env = (false, eval a X.env) :: starEach [b] X.env := by rfl) (h2 : starEach [b] X.env = (false, eval b X.env) :: starEach [] X.env := by rfl) : DS X W RD (.Return (some (.List [a, b] pos)) pos') (sRetSt tl tb) := by
  obtain ⟨_, p1, s1⟩ := ha
  obtain ⟨_, p2, s2⟩ := hb
  refine ⟨_, ps_ret (pe_lst (pa_cons p1 (pa_cons p2 pa_nil h2) h1)), fun z ρ m σ H F D Dh M I h => ?_⟩
  refine s1 z D.rz ρ m σ H F _ _ M.rz I h fun c xs ds H1 F1 ρ1 m1 I1 mv1 hN L hH r1 h1 => ?_
  refine s2 z D.rz ρ1 m1 σ H1 F1 _ _ M.rz I1 h1 fun v H2 F2 ρ2 m2 y I2 mv2 r2 h2 => ?_
  cases y <;> first | exact h2.elim | skip
  rename_i sd
  obtain ⟨⟨ns, e, hns⟩, hs0, hs1, hm, hq⟩ := h2
  subst e
  obtain rfl := r2.int
  obtain ⟨eC, fC, nC⟩ := mv2.kp c _ hH ⟨L.vol, L.own⟩
  have hxs := r1.ints_of
  subst hxs
  refine ⟨by show 2 ≤ sizeLine; rw [sizeLine_eq]; decide, fun p hp => ?_⟩
  have ne : p ≠ c := fun q => by rw [q, eC] at hp; cases hp
  have J := I2.alloc (o := .lst [V.ref c, V.int sd]) hp
  have Lp := I2.loose_new (o := .lst [V.ref c, V.int sd]) hp
  have eC' : upd H2 p (.lst [V.ref c, V.int sd]) c = some (.lst (ns.map V.int)) := by rw [upd_ne ne.symm]; exact eC
  have fC' : F2 c = none := by rw [fC]; exact L.fF
  have mp : m2.μ p = none := by
    cases q : m2.μ p with
    | none => rfl
    | some u => exact absurd (.inr ⟨u, q⟩) Lp.vol
  have mc : m2.μ c = none := by
    cases q : m2.μ c with
    | none => rfl
    | some u => exact absurd (.inr ⟨u, q⟩) nC.1
  have K' : Rel X.K RD z ρ2 (⟨some (p, c), m2.μ⟩ : Ms) σ (upd H2 p (.lst [V.ref c, V.int sd])) F2 := by
    refine ⟨⟨J.sub, ⟨⟨ne, ns, sd, upd_same, eC', hns, hs0, hs1⟩, fun a ha => ?_, J.res.cell⟩, fun a ha => ?_, J.fr, fun a ha => ?_, J.zH, J.fz⟩, J.len, J.var, J.apart, fun a i xs ha e q => ?_⟩
    · rcases ha with e | e
      · rw [e]; exact mp
      · rw [e]; exact mc
    · rcases ha with (e | e) | ha
      · rw [e]; exact Lp.fF
      · rw [e]; exact fC'
      · exact J.vF a (.inr ha)
    · rcases ha with (e | e) | ha
      · rw [e]; exact .inr Lp.zH
      · rw [e]; exact .inr L.zH
      · exact J.vz a (.inr ha)
    · rcases ha with (e' | e') | ha
      · rw [e'] at q
        exact Lp.own i xs e q
      · rw [e'] at q
        exact nC.2 i xs e q
      · exact J.vO a i xs (.inr ha) e q
  exact M.rt (.raw (.ref p)) ρ2 (⟨some (p, c), m2.μ⟩ : Ms) (.ref p) σ _ F2 K' (mv1.same.trans mv2.same) (.raw _) (hq p c mp mc)
end

/-! ### the end of a law -/
/-- the law's promise: any script of at most 63 ints, True -/
def sp_law : SpD RD := fun ds m Q _ => ∃ ns : List Int, ds = [.lst (ns.map .int)] ∧ m = m00 ∧ ns.length ≤ 63 ∧ ∀ m', Q (.bl true) m'
section
variable {P : Program} {w : World} {K : PySem.W.Frag} {mg mb : Str → Option Value}
theorem law_end {fa a : Addr} {f x : Str} {s₁ : Shared} {vs : List Value} {ns : List Int} (KX : K.In s₁.heap) (hns : s₁.heap.Ns mainGlobals mg) (hb : s₁.heap.Ns builtinsNs mb) (hbb : ∀ y : Str, y ≠ "__name__" → mb y = bootBuiltins y)
    (hlim : s₁.heap.NoLimit) (hg : s₁.gens = #[]) (ha : s₁.heap.get? a = some { cls := .type "list", data := .seq vs.toArray }) (hi : PyProof.Rows.IntsAre vs ns) (hl : ns.length ≤ 63) {k : Nat} (hr : Room k PySem.callerA)
    (hfa : mg f = some (.ref fa)) (F : ∀ base : Heap, K.In base → base.Ns mainGlobals mg → DefOk P w K mg base RD k f [x] sp_law) :
    codeAny (model P w) PySem.callerA (.call (.ref fa) ⟨[.ref a], []⟩) (fun r s' => r = .ok (.ret (.bool true)) ∧ OldK s₁.heap s'.heap ∧ s'.os = s₁.os ∧ PyProof.Rows.AllBare s'.gens) s₁ := by
  have rv := vals_ints hi
  have lenV := hi.length
  have hl2 : ns.length ≤ sizeLine := Nat.le_trans hl (by rw [sizeLine_eq]; decide)
  -- whether the script is tracked or one of the module's own objects
  suffices core : ∀ H : Hp, Only H → SqL K H a (ns.map V.int) → HOk P w H s₁.heap → (∀ b, H b ≠ none → b = a ∧ K.lookup a = none) → codeAny (model P w) PySem.callerA (.call (.ref fa) ⟨[.ref a], []⟩) (fun r s' => r = .ok (.ret (.bool true)) ∧ OldK s₁.heap s'.heap ∧ s'.os = s₁.os ∧ PyProof.Rows.AllBare s'.gens) s₁ by
    rcases hk : K.lookup a with _ | o
    · let o₁ : Obj := { cls := .type "list", data := .seq vs.toArray }
      have at_a : ∀ {b u}, (fun b => if b = a then some (HO.frz o₁ (.lst (ns.map V.int))) else none) b = some u → b = a ∧ u = HO.frz o₁ (.lst (ns.map V.int)) := fun {b u} q => by
        by_cases e : b = a
        · exact ⟨e, (Option.some.inj ((if_pos e).symm.trans q)).symm⟩
        · exact absurd ((if_neg e).symm.trans q) (fun z => by cases z)
      refine core (fun b => if b = a then some (HO.frz o₁ (.lst (ns.map V.int))) else none) (fun b => ?_) (Or.inl (Or.inr ⟨o₁, if_pos rfl⟩)) (fun b u q => ?_) (fun b q => ?_)
      · by_cases e : b = a
        · exact Or.inr ⟨o₁, ns.map V.int, if_pos e⟩
        · exact Or.inl (if_neg e)
      · obtain ⟨e1, e2⟩ := at_a q
        subst e1 e2
        exact ⟨ha, by rw [List.length_map]; exact hl2, vs, 0, rv, ha⟩
      · cases e : (fun b => if b = a then some (HO.frz o₁ (.lst (ns.map V.int))) else none) b with
        | none => exact absurd e q
        | some u => exact ⟨(at_a e).1, hk⟩
    · have e : some o = some _ := (KX a o hk).symm.trans ha
      cases e
      exact core (fun _ => none) (fun _ => Or.inl rfl) (Or.inr ⟨_, vs.toArray, 0, hk, rfl, rfl, rfl, by simpa [lenV] using hl2, by simpa using rv⟩) (fun _ _ q => nomatch q) (fun _ q => absurd rfl q)
  intro H hO hS hok hA
  have hid : ∀ {b o}, s₁.heap.get? b = some o → H b = none → (hidT s₁.heap H).get? b = some o := fun e n => hidT_get e n
  have nsOf : ∀ {b : Addr} {m : Str → Option Value}, s₁.heap.Ns b m → (hidT s₁.heap H).Ns b m := by
    rintro b m ⟨o, es, ep, e, d, r⟩
    refine ⟨o, es, ep, hid e ?_, d, r⟩
    cases q : H b with
    | none => rfl
    | some u =>
      have z := (hA b (by simp [q])).1
      subst z
      rw [ha] at e
      cases e
      cases d
  have inB : K.In (hidT s₁.heap H) := fun b o e => hid (KX b o e) (by
    cases q : H b with
    | none => rfl
    | some u =>
      obtain ⟨z, z2⟩ := hA b (by simp [q])
      subst z
      rw [z2] at e
      cases e)
  have md : Mod K mg (hidT s₁.heap H) := ⟨inB, nsOf hns, ⟨mb, nsOf hb, hbb⟩, by
    obtain ⟨mc, n1, n2⟩ := hlim
    exact ⟨mc, nsOf n1, n2⟩⟩
  have en : Env0 P w K mg (hidT s₁.heap H) PySem.callerA [] s₁ H := ⟨rfl, md, fun _ _ e => of_hidT e, Nat.le_of_eq (hidT_size _ _), trivial, (fun b q => absurd (show b ∈ ([] : List Addr) from q) (by simp)), hok, PyProof.Rows.AllBare.of_eq hg⟩
  have pr : spOf K RD 1 sp_law [V.ref a] H (fun v _ => v = .bl true) E0 := by
    refine ⟨H, m00, [.lst (ns.map .int)], fun d _ => d = .bl true, fun _ _ => False, rfl, ⟨Same.refl H, ⟨trivial, fun _ _ => rfl, fun _ _ q => nomatch q⟩, fun _ q => q.elim (fun q => q.elim) fun ⟨_, q⟩ => nomatch q⟩, .cons (.lst hS (DrAll.ints ns)) .nil, ⟨ns, rfl, rfl, hl, fun _ => rfl⟩, fun v H' F' m' d _ r q => ?_, fun _ _ _ _ _ _ _ _ q => q⟩
    have q' : d = .bl true := q
    subst q'
    cases r
    rfl
  obtain ⟨f', fd, hm, _, hbind, hF⟩ := (F _ inB (nsOf hns)).ex
  have ef := hfa.symm.trans hm
  cases ef
  refine codeAny_mono (hF.run PySem.callerA [] s₁ H ⟨[.ref a], []⟩ [.ref a] [.ref a] _ _ hr rfl en (hbind s₁ [.ref a] KX rfl) (.cons rfl .nil) pr) ?_
  intro res s' h
  match res, h with
  | .error e, h =>
    obtain ⟨_, _, _, _, _, _, _, _, _, _, _, _, z⟩ := h
    exact z.elim
  | .ok .next, h => exact h.elim
  | .ok .brk, h => exact h.elim
  | .ok .cont, h => exact h.elim
  | .ok (.ret u), h =>
    obtain ⟨v, H', os, bare, un, ok', ru, q⟩ := h
    have q2 : v = .bl true := q
    subst q2
    have q3 : u = Value.bool true := ru
    subst q3
    refine ⟨rfl, OldK.of_keep fun b o e => ?_, os, bare⟩
    rcases hO b with z | ⟨ob, xs, z⟩
    · exact un.keep b o e z (fun q => by cases q) (fun q => by cases q)
    · have e1 := (hok b _ z).1
      have e2 := (ok' b _ (un.frzs b ob _ z)).1
      rw [e] at e1
      cases e1
      exact e2
end
/-- from the law's promise to the goal behind the head -/
theorem law_walk {l : PySem.W.OpenLaw} {k : Nat} {q : Program} {loose : List Str} {XP : (Str → Option Value) → Heap → Prop} {YP : World → Heap → Prop} {d : DefRec} {K : Params → PySem.W.Frag} {x : Str} (hn : l.most = some 63) (hdf : d.params.defaults = []) (hr : Room k PySem.callerA)
    (hY : ∀ (w : World) (h : Heap), YP w h → (K w.params).In h)
    (F : ∀ (w : World) (mg : Str → Option Value) (h : Heap), (K w.params).In h → h.Ns mainGlobals mg → ∀ base : Heap, (K w.params).In base → base.Ns mainGlobals mg → DefOk l.prog w (K w.params) mg base RD k d.name [x] sp_law) :
    PySem.W.WalkO q loose XP YP l.row.toRowW d [] (fun f vs => PySem.call f vs) := by
  refine Att.attach_call hn hdf ?_
  intro w s₀ s₁ mg mb fa o pm cd doc a vs ns G Y ho hd hcd hmg hobj hints hlen hg
  exact law_end (hY w _ Y) G.T.g G.T.b G.T.builtins G.T.nolimit hg hobj hints hlen hr hmg (F w mg _ (hY w _ Y) G.T.g)
section
variable {K : PySem.W.Frag} {h : Heap} {mg : Str → Option Value} {x : Str} {st : Stmt} {f : Addr} {oc : Value} {od an : Option Addr} {osl : Array (Option Value)} {kV doc pm cdv ct : Value}
theorem top_mk (X : K.In h) (G : h.Ns mainGlobals mg) (a : PySem.W.nsIn K mainGlobals x = some (some (.ref f))) (l : K.lookup f = some ⟨oc, od, .func (PySem.W.fnOf x x (defArgs st) (defBody st) (defScope st) .none kV doc pm an cdv ct), osl⟩)
    (c : PySem.W.codeIn K cdv x = true) (k : PySem.W.keepIn K (.ref f) = true) : TopDef K mg x st := ⟨_, _, PySem.W.mg_of X G a, fun_mk l c k⟩
end
end DL

/-! Data layer: lists that may be held by several (cells). -/
namespace DL
open PySem L2
section
variable {K : PySem.W.Frag} {z : Z0 RD} {ρ : List En} {m : Ms} {σ : L2.St} {H F : Hp}
theorem Ms.put_same {a : Addr} {c : Cell} : (m.put a c).μ a = some c := if_pos rfl
theorem Ms.put_ne {a b : Addr} {c : Cell} (h : b ≠ a) : (m.put a c).μ b = m.μ b := if_neg h
theorem Ms.del_same {a : Addr} : (m.del a).μ a = none := if_pos rfl
theorem Ms.del_ne {a b : Addr} (h : b ≠ a) : (m.del a).μ b = m.μ b := if_neg h
theorem Ms.put_d {a : Addr} {c : Cell} : (m.put a c).d = m.d := rfl
theorem none_of_not_vol {a : Addr} (h : ¬ RD.vol m a) : m.μ a = none := by
  cases q : m.μ a with
  | none => rfl
  | some u => exact absurd (.inr ⟨u, q⟩) h
theorem vol_put {a b : Addr} {c : Cell} (h : RD.vol (m.put a c) b) : b = a ∨ RD.vol m b := by
  rcases h with h | ⟨u, e⟩
  · exact .inr (.inl h)
  · by_cases hb : b = a
    · exact .inl hb
    · rw [Ms.put_ne hb] at e
      exact .inr (.inr ⟨u, e⟩)
theorem vol_del {a b : Addr} (h : RD.vol (m.del a) b) : b ≠ a ∨ isDr m.d b := by
  rcases h with h | ⟨u, e⟩
  · exact .inr h
  · exact .inl fun q => by rw [q, Ms.del_same] at e; cases e
theorem vol_del' {a b : Addr} (h : RD.vol (m.del a) b) : RD.vol m b := by
  rcases h with h | ⟨u, e⟩
  · exact .inl h
  · by_cases hb : b = a
    · rw [hb, Ms.del_same] at e; cases e
    · rw [Ms.del_ne hb] at e
      exact .inr ⟨u, e⟩
/-- a loose thing becomes a cell -/
theorem Rel.cell (I : Rel K RD z ρ m σ H F) {a : Addr} {c : Cell} (L : Loose K RD z ρ m σ H F a) (hc : CellOk K F H a c) : Rel K RD z ρ (m.put a c) σ H F := by
  have nd : ¬ isDr m.d a := fun q => L.vol (.inl q)
  have ap : ∀ b, isDr m.d b → (m.put a c).μ b = none := fun b q => by
    have nb : b ≠ a := fun z => nd (z ▸ q)
    rw [Ms.put_ne nb]
    exact I.res.ap b q
  have cl : ∀ b u, (m.put a c).μ b = some u → CellOk K F H b u := fun b u e => by
    by_cases hb : b = a
    · subst hb
      rw [Ms.put_same] at e
      cases e
      exact hc
    · rw [Ms.put_ne hb] at e
      exact I.res.cell b u e
  refine ⟨⟨I.sub, ⟨I.res.dr, ap, cl⟩, fun b hb => ?_, I.fr, fun b hb => ?_, I.zH, I.fz⟩, I.len, I.var, I.apart, fun b i xs hb e q => ?_⟩
  · rcases vol_put hb with e | h
    · rw [e]; exact L.fF
    · exact I.vF b h
  · rcases vol_put hb with e | h
    · rw [e]; exact .inr L.zH
    · exact I.vz b h
  · rcases vol_put hb with e' | h
    · rw [e'] at q; exact L.own i xs e q
    · exact I.vO b i xs h e q
/-- a cell's thing is changed -/
theorem Rel.cellSet (I : Rel K RD z ρ m σ H F) {a : Addr} {c c' : Cell} {o : HO} (hm : m.μ a = some c) (hc : CellOk K F (upd H a o) a c') : Rel K RD z ρ (m.put a c') σ (upd H a o) F := by
  have va : RD.vol m a := .inr ⟨c, hm⟩
  have nd : ¬ isDr m.d a := fun q => by rw [I.res.ap a q] at hm; cases hm
  have fa : F a = none := I.vF a va
  have k : ∀ b u, b ≠ a → H b = some u → upd H a o b = some u := fun b u ne q => by rw [upd_ne ne]; exact q
  have ap : ∀ b, isDr m.d b → (m.put a c').μ b = none := fun b q => by
    have nb : b ≠ a := fun z => nd (z ▸ q)
    rw [Ms.put_ne nb]
    exact I.res.ap b q
  have cl : ∀ b u, (m.put a c').μ b = some u → CellOk K F (upd H a o) b u := fun b u e => by
    by_cases hb : b = a
    · subst hb
      rw [Ms.put_same] at e
      cases e
      exact hc
    · rw [Ms.put_ne hb] at e
      exact (I.res.cell b u e).up (Same.refl F) fun u q => k b u hb q
  have vp : ∀ b, RD.vol (m.put a c') b → RD.vol m b := fun b h => by
    rcases vol_put h with e | h
    · rw [e]; exact va
    · exact h
  refine ⟨⟨fun b u q => k b u (ne_of_none q fa) (I.sub b u q), ⟨I.res.dr.ext fun b u q e => k b u (fun z => nd (z ▸ q)) e, ap, cl⟩, fun b hb => I.vF b (vp b hb), fun b u q nv => ?_, fun b hb => I.vz b (vp b hb), fun b u q => ?_, I.fz⟩, I.len, fun j u he => ?_, I.apart, fun b i xs hb => I.vO b i xs (vp b hb)⟩
  · have nb : b ≠ a := fun e => by
      rcases I.vz a va with h | h
      · exact nv (e ▸ h)
      · rw [e, h] at q; cases q
    exact ⟨k b u nb (I.fr b u q nv).1, (I.fr b u q nv).2⟩
  · obtain ⟨o', e⟩ := I.zH b u q
    by_cases hb : b = a
    · exact ⟨_, by rw [hb]; exact upd_same⟩
    · exact ⟨o', k b o' hb e⟩
  · obtain ⟨v, q1, q2⟩ := I.var j u he
    refine ⟨v, q1, q2.up (Same.refl F) fun b xs' e0 ho e1 e2 _ => ⟨k b _ (fun q => ?_) e1, e2⟩⟩
    obtain ⟨zs, rfl⟩ := ho
    exact I.vO a j zs va he (by rw [q1, e0, q])
theorem Mv.cellSet {a : Addr} {c c' : Cell} {o : HO} (hm : m.μ a = some c) : Mv RD ρ m σ H F ρ (m.put a c') σ (upd H a o) F := by
  have va : RD.vol m a := .inr ⟨c, hm⟩
  refine ⟨Same.refl F, fun b u q => ?_, fun b u q n => ?_⟩
  · by_cases hb : b = a
    · exact ⟨_, by rw [hb]; exact upd_same⟩
    · exact ⟨u, by rw [upd_ne hb]; exact q⟩
  · have nb : b ≠ a := fun e => n.1 (e ▸ va)
    refine ⟨by rw [upd_ne nb]; exact q, rfl, fun h => ?_, n.2⟩
    rcases vol_put h with e | h
    · exact nb e
    · exact n.1 h
/-- a cell's list becomes data -/
theorem Rel.cellIce (I : Rel K RD z ρ m σ H F) {a : Addr} {xs : List D} (hm : m.μ a = some (.lst xs)) : ∃ F', Rel K RD z ρ (m.del a) σ H F' ∧ Mv RD ρ m σ H F ρ (m.del a) σ H F' ∧ Dr K F' (.ref a) (.lst xs) := by
  have va : RD.vol m a := .inr ⟨_, hm⟩
  have fa : F a = none := I.vF a va
  obtain ⟨vs, hH, r⟩ := I.res.cell a _ hm
  have s : Same F (upd F a (.lst vs)) := fun b u e => by rw [upd_ne (ne_of_none e fa)]; exact e
  have ap : ∀ b, isDr m.d b → (m.del a).μ b = none := fun b q => by
    by_cases hb : b = a
    · rw [hb]; exact Ms.del_same
    · rw [Ms.del_ne hb]; exact I.res.ap b q
  have cl : ∀ b u, (m.del a).μ b = some u → CellOk K (upd F a (.lst vs)) H b u := fun b u e => by
    by_cases hb : b = a
    · rw [hb, Ms.del_same] at e; cases e
    · rw [Ms.del_ne hb] at e
      exact (I.res.cell b u e).up s fun _ q => q
  have nvd : ∀ b, RD.vol (m.del a) b → b ≠ a := fun b h => by
    rcases vol_del h with q | q
    · exact q
    · intro e
      rw [e] at q
      rw [I.res.ap a q] at hm
      cases hm
  refine ⟨upd F a (.lst vs), ⟨⟨fun b u e => ?_, ⟨I.res.dr, ap, cl⟩, fun b hb => ?_, fun b u q nv => ?_, fun b hb => I.vz b (vol_del' hb), I.zH, I.fz.trans s⟩, I.len, fun j u he => ?_, I.apart, fun b i ys hb => I.vO b i ys (vol_del' hb)⟩, ⟨s, fun b u q => ⟨u, q⟩, fun b u q n => ⟨q, ?_, fun h => n.1 (vol_del' h), n.2⟩⟩, .lst (SqL.of upd_same) (r.up s)⟩
  · by_cases hb : b = a
    · subst hb; rw [upd_same] at e; cases e; exact hH
    · rw [upd_ne hb] at e; exact I.sub b u e
  · rw [upd_ne (nvd b hb)]; exact I.vF b (vol_del' hb)
  · have nb : b ≠ a := fun e => by
      rcases I.vz a va with h | h
      · exact nv (e ▸ h)
      · rw [e, h] at q; cases q
    rw [upd_ne nb]
    exact I.fr b u q nv
  · obtain ⟨v, q1, q2⟩ := I.var j u he
    refine ⟨v, q1, q2.up s fun b xs' e0 ho e1 e2 _ => ⟨e1, ?_⟩⟩
    obtain ⟨zs, rfl⟩ := ho
    have nb : b ≠ a := fun q => I.vO a j zs va he (by rw [q1, e0, q])
    rw [upd_ne nb]; exact e2
  · have nb : b ≠ a := fun e => n.1 (e ▸ va)
    rw [upd_ne nb]
end

/-! ### what is deep in cells becomes data -/
mutual
inductive Res : Ms → D → D → Ms → Prop
  | cell {m m' : Ms} {a : Addr} {xs ys : List D} : m.μ a = some (.lst xs) → ResAll (m.del a) xs ys m' → Res m (.raw (.ref a)) (.lst ys) m'
  | lst {m m' : Ms} {xs ys : List D} : ResAll m xs ys m' → Res m (.lst xs) (.lst ys) m'
  | tup {m m' : Ms} {xs ys : List D} : ResAll m xs ys m' → Res m (.tup xs) (.tup ys) m'
  | same {m : Ms} {d : D} : Res m d d m
inductive ResAll : Ms → List D → List D → Ms → Prop
  | nil {m : Ms} : ResAll m [] [] m
  | cons {m m1 m2 : Ms} {d d' : D} {ds ds' : List D} : Res m d d' m1 → ResAll m1 ds ds' m2 → ResAll m (d :: ds) (d' :: ds') m2
end
section
variable {K : PySem.W.Frag} {z : Z0 RD} {ρ : List En} {σ : L2.St} {H : Hp}
mutual
theorem Res.ok : ∀ {m m' : Ms} {d d' : D} {F : Hp} {v : V}, Res m d d' m' → Rel K RD z ρ m σ H F → Dr K F v d → ∃ F', Rel K RD z ρ m' σ H F' ∧ Mv RD ρ m σ H F ρ m' σ H F' ∧ Dr K F' v d'
  | _, _, _, _, F, _, .same, I, r => ⟨F, I, Mv.refl, r⟩
  | _, _, _, _, F, _, .lst h, I, r => by
    cases r with
    | lst hl ra =>
      obtain ⟨F', I', mv, ra'⟩ := ResAll.ok h I ra
      exact ⟨F', I', mv, .lst (mv.same.seq hl) ra'⟩
  | _, _, _, _, F, _, .tup h, I, r => by
    cases r with
    | tup hl ra =>
      obtain ⟨F', I', mv, ra'⟩ := ResAll.ok h I ra
      exact ⟨F', I', mv, .tup (Same.sqT mv.same hl) ra'⟩
  | _, _, _, _, F, _, .cell hm h, I, r => by
    cases r
    obtain ⟨F1, I1, mv1, r1⟩ := I.cellIce hm
    cases r1 with
    | lst hl ra =>
      obtain ⟨F', I', mv, ra'⟩ := ResAll.ok h I1 ra
      exact ⟨F', I', mv1.trans mv, .lst (mv.same.seq hl) ra'⟩
theorem ResAll.ok : ∀ {m m' : Ms} {ds ds' : List D} {F : Hp} {vs : List V}, ResAll m ds ds' m' → Rel K RD z ρ m σ H F → DrAll K F vs ds → ∃ F', Rel K RD z ρ m' σ H F' ∧ Mv RD ρ m σ H F ρ m' σ H F' ∧ DrAll K F' vs ds'
  | _, _, _, _, F, _, .nil, I, r => ⟨F, I, Mv.refl, r⟩
  | _, _, _, _, F, _, .cons h1 h2, I, r => by
    cases r with
    | cons r1 r2 =>
      obtain ⟨F1, I1, mv1, r1'⟩ := Res.ok h1 I r1
      obtain ⟨F2, I2, mv2, r2'⟩ := ResAll.ok h2 I1 (r2.up mv1.same)
      exact ⟨F2, I2, mv1.trans mv2, .cons (r1'.up mv2.same) r2'⟩
end
end
section
variable {X : Cx} {W : WX} {e : Expr} {es : List Expr} {pos : Pos} {te tk to : TD RD} {tl : TL RD}
/-- what stands in cells becomes data -/
def eRes (t : TD RD) : TD RD := fun Z ρ m Q => t Z ρ m fun d ρ1 m1 => d.firm ∧ ∃ d' m2, Res m1 d d' m2 ∧ Q d' ρ1 m2
theorem de_res (h : DE X W RD e te) : DE X W RD e (eRes te) := by
  obtain ⟨_, p1, s1⟩ := h
  refine ⟨_, p1, fun z Z ρ m σ H F Q Qh hz I h q => ?_⟩
  refine s1 z Z ρ m σ H F _ _ hz I h fun v H1 F1 ρ1 m1 d I1 f1 r1 h1 => ?_
  obtain ⟨fm, d', m2, hr, hq⟩ := h1
  obtain ⟨F2, I2, mv, r2⟩ := hr.ok I1 (r1.dr fm)
  exact q v H1 F2 ρ1 m2 d' I2 (f1.trans mv) r2.dv hq
/-- a new list becomes a cell -/
def eNew (t : TL RD) : TD RD := fun Z ρ m Q => t Z ρ m fun xs ρ1 m1 => ∀ a, m1.μ a = none → ¬ isDr m1.d a → Q (.raw (.ref a)) ρ1 (Ms.put m1 a (.lst xs))
theorem DO.cell (h : DO X W RD e tl) : DE X W RD e (eNew tl) := by
  obtain ⟨_, p1, s1⟩ := h
  refine ⟨_, p1, fun z Z ρ m σ H F Q Qh hz I h q => ?_⟩
  refine s1 z Z ρ m σ H F _ _ hz I h fun a xs ds H' F' ρ' m' I' mv hN L hH r hq => ?_
  refine q (.ref a) H' F' ρ' (Ms.put m' a (.lst ds)) (.raw (.ref a)) (I'.cell L ⟨xs, hH, r⟩) ⟨mv.same, mv.live, fun b o e n => ?_⟩ (Dr.dv (.raw _)) (hq a (none_of_not_vol L.vol) fun z => L.vol (.inl z))
  obtain ⟨e1, f1, n1⟩ := mv.kp b o e n
  refine ⟨e1, f1, fun h => ?_, n1.2⟩
  rcases vol_put h with e' | h
  · rw [e', hN] at e; cases e
  · exact n1.1 h
/-- x[k] = e, x a cell -/
def sPutC (to tk t : TD RD) : TSd RD := fun G ρ m => t G.rz ρ m fun d ρ1 m1 => d.firm ∧ to G.rz ρ1 m1 fun o ρ2 m2 => tk G.rz ρ2 m2 fun k ρ3 m3 => match o, k with
  | .raw (.ref a), .int k => ∃ xs j, m3.μ a = some (.lst xs) ∧ ixN xs.length k = some j ∧ G.nx ρ3 (Ms.put m3 a (.lst (xs.set j d)))
  | _, _ => False
theorem ds_putC {o k : Expr} {spos : Pos} (ho : DE X W RD o to) (hk : DE X W RD k tk) (he : DE X W RD e te)
    (ha : ∀ {t1 t2 : TE}, PE X o t1 → PE X k t2 → PG X (.Subscript o k spos) (gSub t1 t2 rSetL) := by exact fun h1 h2 => pg_sub h1 h2 set_list)
    (hs : swapsWithSole [.Subscript o k spos] e pos.line X.env = pure false := by rfl) (hw : swappedStores [.Subscript o k spos] e X.env = pure none := by rfl) (h1 : (assignEach [.Subscript o k spos] X.env).map (·.2) = [assign (.Subscript o k spos) X.env] := by rfl) : DS X W RD (.Assign [.Subscript o k spos] e pos) (sPutC to tk te) := by
  obtain ⟨_, p1, s1⟩ := he
  obtain ⟨_, p2, s2⟩ := hk
  obtain ⟨_, p3, s3⟩ := ho
  refine ⟨_, ps_asg p1 (ha p3 p2) hs hw h1, fun z ρ m σ H F D Dh M I h => ?_⟩
  refine s1 z D.rz ρ m σ H F _ _ M.rz I h fun v H1 F1 ρ1 m1 d I1 f1 r1 h1 => ?_
  obtain ⟨fm, h1⟩ := h1
  have rd := r1.dr fm
  refine s3 z D.rz ρ1 m1 σ H1 F1 _ _ M.rz I1 h1 fun x H2 F2 ρ2 m2 dx I2 f2 r2 h2 => ?_
  refine s2 z D.rz ρ2 m2 σ H2 F2 _ _ M.rz I2 h2 fun u H3 F3 ρ3 m3 dk I3 f3 r3 h3 => ?_
  split at h3
  · rename_i a kk
    obtain ⟨xs, j, hm, hj, hn⟩ := h3
    obtain rfl := r2.raw
    obtain rfl := r3.int
    obtain ⟨vs, hH, ra⟩ := I3.res.cell a _ hm
    have rd3 := (rd.up f2.same).up f3.same
    exact ⟨a, vs, kk, j, rfl, rfl, hH, by rw [ra.length]; exact hj, M.nx ρ3 _ σ _ F3 (I3.cellSet (c' := .lst (xs.set j d)) hm ⟨_, upd_same, ra.set rd3 j⟩) ((f1.same.trans f2.same).trans f3.same) hn⟩
  · exact h3.elim
/-- x.m(..), x a cell, m a method of lists -/
def eCellM (to : TD RD) (t : TL RD) (f : List D → List D → (D → List D → Prop) → Prop) : TD RD := fun Z ρ m Q => to Z ρ m fun o ρ1 m1 => match o with
  | .raw (.ref a) => (∃ xs, m1.μ a = some (.lst xs)) ∧ t Z ρ1 m1 fun ds ρ2 m2 => Firms ds ∧ ∃ xs, m2.μ a = some (.lst xs) ∧ f xs ds fun d ys => Q d ρ2 (Ms.put m2 a (.lst ys))
  | _ => False
theorem de_cellM {o : Expr} {id : String} {name : Str} {apos : Pos} {r : V → List V → Hp → VK → Prop} {f : List D → List D → (D → List D → Prop) → Prop} (slot : Slot "list" name id) (hty : typeOf (.builtin id) = pure (.type "method_descriptor")) (hm : MtR X id r)
    (L : ∀ (F H : Hp) (a : Addr) (vs : List V) (xs : List V) (ds : List D) (es : List D) (Q : D → List D → Prop) (Qh : VK), H a = some (.lst xs) → DrAll X.K F xs ds → DrAll X.K F vs es → f ds es Q → (∀ v d ys gs, Dr X.K F v d → DrAll X.K F ys gs → Q d gs → Qh v (upd H a (.lst ys))) → r (.ref a) vs H Qh)
    (ho : DE X W RD o to) (ha : DA X W RD (e :: es) tl) (hbase : attributeBase o name X.env (eval o X.env) = eval o X.env := by rfl)
    (hfew : ((backTo pos (starEach (e :: es) X.env)).all (fun x => !x.1) && (backToKw pos (keywordEach [] X.env)).all (fun x => x.1.isSome)
      && decide ((e :: es).length + ([] : List Keyword).length + (if ([] : List Keyword).isEmpty then 0 else 1) < 30)) = true := by rfl)
    (hline : (apos.endLine == pos.line) = true := by rfl) (hs : starEach (e :: es) X.env = (false, eval e X.env) :: starEach es X.env := by rfl) (hplain : (backTo pos (starEach es X.env)).any (·.1) = false := by rfl) :
    DE X W RD (.Call (.Attribute o name apos) (e :: es) [] pos) (eCellM to tl f) := by
  obtain ⟨_, p1, s1⟩ := ha
  obtain ⟨_, p0, s0⟩ := ho
  refine ⟨_, pe_bm F.plainAttrs_list slot hty hm p0 p1 hbase hfew hline hs hplain, fun z Z ρ m σ H F Q Qh hz I h q => ?_⟩
  refine s0 z Z ρ m σ H F _ _ hz I h fun x H0 F0 ρ0 m0 dx I0 f0 r0 h0 => ?_
  cases dx <;> first | exact h0.elim | skip
  rename_i xv
  obtain rfl := r0.raw
  cases x <;> first | exact h0.elim | skip
  rename_i a
  obtain ⟨⟨xs0, e0⟩, h0⟩ := h0
  obtain ⟨vs0, hH0, _⟩ := I0.res.cell a _ e0
  refine ⟨.inl ⟨rfl, _, SqL.of hH0⟩, ?_⟩
  refine s1 z Z ρ0 m0 σ H0 F0 _ _ hz I0 h0 fun vs H1 F1 ρ1 m1 ds I1 f1 r1 _ h1 => ?_
  obtain ⟨fm, xs, e1, h1⟩ := h1
  obtain ⟨us, hH, ra⟩ := I1.res.cell a _ e1
  refine L F1 H1 a vs us xs ds _ _ hH ra (r1.dr fm) h1 fun v d ys gs rd rg hq => ?_
  exact q v _ F1 ρ1 _ d (I1.cellSet (c' := .lst gs) e1 ⟨ys, upd_same, rg⟩) ((f0.trans f1).trans (Mv.cellSet e1)) rd.dv hq
theorem link_append {K : PySem.W.Frag} : ∀ (F H : Hp) (a : Addr) (vs : List V) (xs : List V) (ds : List D) (es : List D) (Q : D → List D → Prop) (Qh : VK), H a = some (.lst xs) → DrAll K F xs ds → DrAll K F vs es → fAppend ds es Q → (∀ v d ys gs, Dr K F v d → DrAll K F ys gs → Q d gs → Qh v (upd H a (.lst ys))) → rAppend (.ref a) vs H Qh := fun F H a vs xs ds es Q Qh hH r rs h0 q => by
  unfold fAppend at h0
  split at h0
  · cases rs with
    | cons rd rn =>
      cases rn
      exact ⟨a, xs, _, rfl, rfl, hH, by rw [r.length]; exact h0.1, q _ _ _ _ .non (r.append (.cons rd .nil)) h0.2⟩
  · exact h0.elim
theorem de_appendC {o : Expr} {apos : Pos} (ho : DE X W RD o to) (ha : DA X W RD [e] tl) (hbase : attributeBase o "append" X.env (eval o X.env) = eval o X.env := by rfl)
    (hfew : ((backTo pos (starEach [e] X.env)).all (fun x => !x.1) && (backToKw pos (keywordEach [] X.env)).all (fun x => x.1.isSome) && decide ([e].length + ([] : List Keyword).length + (if ([] : List Keyword).isEmpty then 0 else 1) < 30)) = true := by rfl)
    (hline : (apos.endLine == pos.line) = true := by rfl) (hs : starEach [e] X.env = (false, eval e X.env) :: starEach [] X.env := by rfl) (hplain : (backTo pos (starEach [] X.env)).any (·.1) = false := by rfl) :
    DE X W RD (.Call (.Attribute o "append" apos) [e] [] pos) (eCellM to tl fAppend) :=
  de_cellM F.slot_list_append F.type_list_append mt_append link_append ho ha hbase hfew hline hs hplain
end
end DL

/-! Data layer: laws of the readings; numbers modulo p; encodings. -/
namespace DL
open PySem L2
/-! ### comprehensions -/
inductive All2 {α β : Type} (r : α → β → Prop) : List α → List β → Prop
  | nil : All2 r [] []
  | cons {a : α} {b : β} {as : List α} {bs : List β} : r a b → All2 r as bs → All2 r (a :: as) (b :: bs)
theorem All2.length {α β : Type} {r : α → β → Prop} : ∀ {as : List α} {bs : List β}, All2 r as bs → as.length = bs.length
  | _, _, .nil => rfl
  | _, _, .cons _ t => by rw [List.length_cons, List.length_cons, All2.length t]
theorem All2.map {α β γ : Type} {r : α → β → Prop} {f : γ → α} : ∀ {cs : List γ} {bs : List β}, All2 r (cs.map f) bs → All2 (fun c b => r (f c) b) cs bs
  | [], _, h => by cases h; exact .nil
  | c :: cs, _, h => by
    cases h with
    | cons h1 h2 => exact .cons h1 (All2.map h2)
theorem All2.eq_map {α β : Type} {f : α → β} : ∀ {as : List α} {bs : List β}, All2 (fun a b => b = f a) as bs → bs = as.map f
  | _, _, .nil => rfl
  | _, _, .cons h t => by rw [List.map_cons, ← All2.eq_map t, h]
theorem All2.imp {α β : Type} {r s : α → β → Prop} (h : ∀ a b, r a b → s a b) : ∀ {as : List α} {bs : List β}, All2 r as bs → All2 s as bs
  | _, _, .nil => .nil
  | _, _, .cons a t => .cons (h _ _ a) (All2.imp h t)
/-- bs are codes of values that satisfy P -/
theorem All2.choose {α β γ : Type} {f : γ → β} {P : α → γ → Prop} : ∀ {as : List α} {bs : List β}, All2 (fun a b => ∃ c, b = f c ∧ P a c) as bs → ∃ cs : List γ, bs = cs.map f ∧ All2 P as cs
  | _, _, .nil => ⟨[], rfl, .nil⟩
  | _, _, .cons ⟨c, e, h⟩ t => by
    obtain ⟨cs, e2, h2⟩ := All2.choose t
    exact ⟨c :: cs, by rw [List.map_cons, e, e2], .cons h h2⟩
theorem All2.right {α β : Type} {r : α → β → Prop} {P : β → Prop} (h : ∀ a b, r a b → P b) : ∀ {as : List α} {bs : List β}, All2 r as bs → ∀ b ∈ bs, P b
  | _, _, .nil, _, hb => by cases hb
  | _, _, .cons a t, b, hb => by
    rcases List.mem_cons.mp hb with e | hb
    · rw [e]; exact h _ _ a
    · exact All2.right h t b hb
section
variable {R : Rs} {g : TGd R} {e : TD R} {vs : List Nat} {Q : KL R} {ρ : List En} {m : R.M}
theorem lcD_rel (r : D → D → Prop) : ∀ (ds acc : List D), (∀ d ∈ ds, ∀ P : KD R, (∀ y ρ', r d y → wipeE ρ' vs = ρ → P y ρ' m) → g d ρ m fun ρ2 m2 => e zF ρ2 m2 P) → (∀ d y, r d y → y.firm) → acc.length + ds.length ≤ sizeLine →
    (∀ ys, All2 r ds ys → Q (acc ++ ys) ρ m) → lcD g bYes e vs Q ds acc ρ m
  | [], acc, _, _, _, hq => by
    have := hq [] .nil
    rw [List.append_nil] at this
    exact this
  | d :: ds, acc, h, hf, hl, hq => by
    rw [List.length_cons] at hl
    have h1 := h d (List.mem_cons_self ..) (fun y ρ4 m4 => y.firm ∧ acc.length < sizeLine ∧ lcD g bYes e vs Q ds (acc ++ [y]) (wipeE ρ4 vs) m4) fun y ρ' hr hw => by
      refine ⟨hf d y hr, by omega, ?_⟩
      rw [hw]
      exact lcD_rel r ds (acc ++ [y]) (fun d hd => h d (List.mem_cons_of_mem _ hd)) hf (by rw [List.length_append, List.length_singleton]; omega) fun ys hy => by
        rw [List.append_assoc]
        exact hq (y :: ys) (.cons hr hy)
    have key : ∀ (A : List En → R.M → Prop), (∀ ρ2 m2, A ρ2 m2 → (fun ρ2 m2 => bYes zF ρ2 m2 fun b ρ3 m3 => (b = true → e zF ρ3 m3 fun y ρ4 m4 => y.firm ∧ acc.length < sizeLine ∧ lcD g bYes e vs Q ds (acc ++ [y]) (wipeE ρ4 vs) m4) ∧ (b = false → lcD g bYes e vs Q ds acc (wipeE ρ3 vs) m3)) ρ2 m2) → True := fun _ _ => trivial
    show g d ρ m _
    have e1 : (fun (ρ2 : List En) (m2 : R.M) => bYes zF ρ2 m2 fun b ρ3 m3 => (b = true → e zF ρ3 m3 fun y ρ4 m4 => y.firm ∧ acc.length < sizeLine ∧ lcD g bYes e vs Q ds (acc ++ [y]) (wipeE ρ4 vs) m4) ∧ (b = false → lcD g bYes e vs Q ds acc (wipeE ρ3 vs) m3)) = fun ρ2 m2 => e zF ρ2 m2 fun y ρ4 m4 => y.firm ∧ acc.length < sizeLine ∧ lcD g bYes e vs Q ds (acc ++ [y]) (wipeE ρ4 vs) m4 := by
      funext ρ2 m2
      apply propext
      constructor
      · intro h; exact h.1 rfl
      · intro h; exact ⟨fun _ => h, fun q => by cases q⟩
    rw [e1]
    exact h1
theorem lcD_map (f : D → D) (ds acc : List D) (h : ∀ d ∈ ds, ∀ P : KD R, (∀ ρ', wipeE ρ' vs = ρ → P (f d) ρ' m) → g d ρ m fun ρ2 m2 => e zF ρ2 m2 P) (hf : ∀ d, (f d).firm) (hl : acc.length + ds.length ≤ sizeLine) (hq : Q (acc ++ ds.map f) ρ m) : lcD g bYes e vs Q ds acc ρ m :=
  lcD_rel (fun d y => y = f d) ds acc (fun d hd P hP => h d hd P fun ρ' hw => hP _ ρ' rfl hw) (fun d y hy => by rw [hy]; exact hf d) hl fun ys hy => by rw [hy.eq_map]; exact hq
end
/-- a comprehension with a test of the item alone -/
theorem lcD_filter {R : Rs} {g : TGd R} {t : TB R} {e : TD R} {vs : List Nat} {Q : KL R} {ρ : List En} {m : R.M} (p : D → Bool) (f : D → D) : ∀ (ds acc : List D),
    (∀ d ∈ ds, ∀ P : KB R, (∀ ρ', (p d = true → ∀ P2 : KD R, (∀ ρ'', wipeE ρ'' vs = ρ → P2 (f d) ρ'' m) → e zF ρ' m P2) → wipeE ρ' vs = ρ → P (p d) ρ' m) → g d ρ m fun ρ2 m2 => t zF ρ2 m2 P) →
    (∀ d, (f d).firm) → acc.length + ds.length ≤ sizeLine → Q (acc ++ (ds.filter p).map f) ρ m → lcD g t e vs Q ds acc ρ m
  | [], acc, _, _, _, hq => by
    rw [List.filter_nil, List.map_nil, List.append_nil] at hq
    exact hq
  | d :: ds, acc, h, hf, hl, hq => by
    rw [List.length_cons] at hl
    refine h d (List.mem_cons_self ..) _ fun ρ' he hw => ⟨fun hb => he hb _ fun ρ'' hw2 => ⟨hf d, by omega, ?_⟩, fun hb => ?_⟩
    · rw [hw2]
      refine lcD_filter p f ds (acc ++ [f d]) (fun d hd => h d (List.mem_cons_of_mem _ hd)) hf (by rw [List.length_append, List.length_singleton]; omega) ?_
      rw [List.filter_cons_of_pos hb, List.map_cons] at hq
      rw [List.append_assoc]
      exact hq
    · rw [hw]
      refine lcD_filter p f ds acc (fun d hd => h d (List.mem_cons_of_mem _ hd)) hf (by omega) ?_
      rw [List.filter_cons_of_neg (by rw [hb]; decide)] at hq
      exact hq

/-! ### numbers modulo p -/
def Eqm (p a b : Int) : Prop := a % p = b % p
theorem Eqm.add {p a b c d : Int} (h : Eqm p a b) (k : Eqm p c d) : Eqm p (a + c) (b + d) := by
  unfold Eqm at *
  rw [Int.add_emod, h, k, ← Int.add_emod]
theorem Eqm.mul {p a b c d : Int} (h : Eqm p a b) (k : Eqm p c d) : Eqm p (a * c) (b * d) := by
  unfold Eqm at *
  rw [Int.mul_emod, h, k, ← Int.mul_emod]
theorem Eqm.sub {p a b c d : Int} (h : Eqm p a b) (k : Eqm p c d) : Eqm p (a - c) (b - d) := by
  unfold Eqm at *
  rw [Int.sub_emod, h, k, ← Int.sub_emod]
theorem Eqm.mod {p a : Int} : Eqm p (a % p) a := Int.emod_emod_of_dvd a (Int.dvd_refl p)
theorem Eqm.rfl {p a : Int} : Eqm p a a := Eq.refl _
theorem Eqm.of {p a b : Int} (h : a = b) : Eqm p a b := by rw [h]; exact Eq.refl _
theorem Eqm.symm {p a b : Int} (h : Eqm p a b) : Eqm p b a := Eq.symm h
theorem Eqm.trans {p a b c : Int} (h : Eqm p a b) (k : Eqm p b c) : Eqm p a c := Eq.trans h k
theorem Eqm.pow {p a b : Int} (h : Eqm p a b) : ∀ n : Nat, Eqm p (a ^ n) (b ^ n)
  | 0 => Eqm.of (by rw [Int.pow_zero, Int.pow_zero])
  | n + 1 => by rw [Int.pow_succ, Int.pow_succ]; exact (Eqm.pow h n).mul h

/-! ### encodings -/
abbrev eI (l : List Int) : D := .lst (l.map .int)
abbrev eII (l : List (List Int)) : D := .lst (l.map eI)
theorem pls_all : ∀ {ds : List D}, (∀ d ∈ ds, d.pl = true) → pls ds = true
  | [], _ => rfl
  | d :: ds, h => by
    show (d.pl && pls ds) = true
    rw [h d (List.mem_cons_self ..), pls_all fun e he => h e (List.mem_cons_of_mem _ he)]
    rfl
theorem pl_eI (l : List Int) : (eI l).pl = true := pls_all fun d hd => by
  obtain ⟨n, _, rfl⟩ := List.mem_map.mp hd
  rfl
theorem pl_eII (l : List (List Int)) : (eII l).pl = true := pls_all fun d hd => by
  obtain ⟨n, _, rfl⟩ := List.mem_map.mp hd
  exact pl_eI n
theorem depthAll_le {n : Nat} : ∀ {ps : List PyData}, (∀ d ∈ ps, d.depth ≤ n) → PyData.depthAll ps ≤ n
  | [], _ => by simp [PyData.depthAll]
  | d :: ps, h => by
    rw [PyData.depthAll]
    exact Nat.max_le.mpr ⟨h d (List.mem_cons_self ..), depthAll_le fun e he => h e (List.mem_cons_of_mem _ he)⟩
theorem canLayAll : ∀ {ps : List PyData}, (∀ d ∈ ps, d.canLay0 = true) → PyData.canLayAll0 ps = true
  | [], _ => by simp [PyData.canLayAll0]
  | d :: ps, h => by
    rw [PyData.canLayAll0, h d (List.mem_cons_self ..), canLayAll fun e he => h e (List.mem_cons_of_mem _ he)]
    rfl
theorem toP_lst (xs : List D) : (D.lst xs).toP = .list (xs.map D.toP) := by rw [D.toP, toPs_map]
theorem toP_tup (xs : List D) : (D.tup xs).toP = .tuple (xs.map D.toP) := by rw [D.toP, toPs_map]
theorem toP_eI (l : List Int) : (eI l).toP = .list (l.map .int) := by
  rw [toP_lst, List.map_map]
  rfl
theorem toP_eII (l : List (List Int)) : (eII l).toP = .list (l.map fun r => .list (r.map .int)) := by
  rw [toP_lst, List.map_map]
  congr 1
  apply List.map_congr_left
  intro r _
  exact toP_eI r
theorem depth_list {n : Nat} {ps : List PyData} (h : ∀ d ∈ ps, d.depth ≤ n) : (PyData.list ps).depth ≤ n + 1 := by
  rw [PyData.depth]
  exact Nat.succ_le_succ (depthAll_le h)
theorem depth_int (i : Int) : (PyData.int i).depth = 0 := by rw [PyData.depth]
theorem depth_eI (l : List Int) : (eI l).toP.depth ≤ 1 := by
  rw [toP_eI]
  exact depth_list fun d hd => by
    obtain ⟨n, _, rfl⟩ := List.mem_map.mp hd
    rw [depth_int]
    exact Nat.le_refl 0
theorem depth_eII (l : List (List Int)) : (eII l).toP.depth ≤ 2 := by
  rw [toP_lst]
  exact depth_list fun d hd => by
    obtain ⟨x, hx, rfl⟩ := List.mem_map.mp hd
    obtain ⟨r, _, rfl⟩ := List.mem_map.mp hx
    exact depth_eI r
theorem lay_list {ps : List PyData} (h : ∀ d ∈ ps, d.canLay0 = true) : (PyData.list ps).canLay0 = true := by
  rw [PyData.canLay0]
  exact canLayAll h
theorem lay_eI (l : List Int) : (eI l).toP.canLay0 = true := by
  rw [toP_eI]
  exact lay_list fun d hd => by
    obtain ⟨n, _, rfl⟩ := List.mem_map.mp hd
    rw [PyData.canLay0]
theorem lay_eII (l : List (List Int)) : (eII l).toP.canLay0 = true := by
  rw [toP_lst]
  exact lay_list fun d hd => by
    obtain ⟨x, hx, rfl⟩ := List.mem_map.mp hd
    obtain ⟨r, _, rfl⟩ := List.mem_map.mp hx
    exact lay_eI r
theorem shaped_of {d : PyData} (h1 : d.canLay0 = true) (h2 : d.depth ≤ 64) : SeqAt.shaped d = true := by
  unfold SeqAt.shaped
  rw [h1, decide_eq_true h2]
  rfl
theorem shaped_eI (l : List Int) : SeqAt.shaped (eI l).toP = true := shaped_of (lay_eI l) (Nat.le_trans (depth_eI l) (by decide))
theorem shaped_eII (l : List (List Int)) : SeqAt.shaped (eII l).toP = true := shaped_of (lay_eII l) (Nat.le_trans (depth_eII l) (by decide))
theorem eqvAll_map {α : Type} [DecidableEq α] {f : α → PyData} (h : ∀ a b, PyData.eqv (f a) (f b) = decide (a = b)) : ∀ xs ys : List α, PyData.eqvAll (xs.map f) (ys.map f) = decide (xs = ys)
  | [], [] => by simp [PyData.eqvAll]
  | [], _ :: _ => by simp [PyData.eqvAll]
  | _ :: _, [] => by simp [PyData.eqvAll]
  | x :: xs, y :: ys => by
    rw [List.map_cons, List.map_cons, PyData.eqvAll, h, eqvAll_map h xs ys, ← Bool.decide_and]
    congr 1
    simp
theorem eqv_list {xs ys : List PyData} : PyData.eqv (.list xs) (.list ys) = PyData.eqvAll xs ys := by rw [PyData.eqv]
theorem eqv_int (a b : Int) : PyData.eqv (.int a) (.int b) = decide (a = b) := by
  rw [PyData.eqv]
  exact Bool.beq_eq_decide_eq a b
theorem eqv_ints (a b : List Int) : PyData.eqv (.list (a.map .int)) (.list (b.map .int)) = decide (a = b) := by
  rw [eqv_list]
  exact eqvAll_map eqv_int a b
theorem eqv_eI (a b : List Int) : PyData.eqv (eI a).toP (eI b).toP = decide (a = b) := by
  rw [toP_eI, toP_eI, eqv_ints]
theorem eqv_eII (a b : List (List Int)) : PyData.eqv (eII a).toP (eII b).toP = decide (a = b) := by
  rw [toP_eII, toP_eII, eqv_list]
  exact eqvAll_map eqv_ints a b
/-- == of two lists of numbers, of two lists of rows -/
theorem eq_eI {w : Vw} {ρ : List En} {a b : List Int} {Q : Bool → Prop} (h : Q (decide (a = b))) : dEqB w ρ (eI a) (eI b) Q := by
  refine ⟨pl_eI a, pl_eI b, shaped_eI a, shaped_eI b, ?_⟩
  show Q (PyData.eqv (eI a).toP (eI b).toP)
  rw [eqv_eI]
  exact h
theorem eq_eII {w : Vw} {ρ : List En} {a b : List (List Int)} {Q : Bool → Prop} (h : Q (decide (a = b))) : dEqB w ρ (eII a) (eII b) Q := by
  refine ⟨pl_eII a, pl_eII b, shaped_eII a, shaped_eII b, ?_⟩
  show Q (PyData.eqv (eII a).toP (eII b).toP)
  rw [eqv_eII]
  exact h
/-- x in xs of rows -/
theorem in_eII {w : Vw} {ρ : List En} {a : List Int} {b : List (List Int)} {Q : Bool → Prop} (h : Q (decide (a ∈ b))) : dInB w ρ (eI a) (eII b) Q := by
  refine ⟨pl_eI a, pl_eII b, shaped_eI a, shaped_eII b, ?_⟩
  show Q ((toPs (b.map eI)).any fun d => PyData.eqv d (eI a).toP)
  have e : ((toPs (b.map eI)).any fun d => PyData.eqv d (eI a).toP) = decide (a ∈ b) := by
    rw [toPs_map, List.map_map, List.any_map]
    rw [Bool.eq_iff_iff, List.any_eq_true, decide_eq_true_eq]
    constructor
    · rintro ⟨r, hr, e⟩
      have e' : PyData.eqv (eI r).toP (eI a).toP = true := e
      rw [eqv_eI, decide_eq_true_eq] at e'
      exact e' ▸ hr
    · intro hr
      refine ⟨a, hr, ?_⟩
      show PyData.eqv (eI a).toP (eI a).toP = true
      rw [eqv_eI, decide_eq_true rfl]
  rw [e]
  exact h
/-- <= of rows -/
theorem le_eI {w : Vw} {ρ : List En} {a b : List Int} {Q : D → Prop} (h : Q (.bl (decide (a ≤ b)))) : dLeU w ρ (eI a) (eI b) Q := by
  refine ⟨pl_eI a, pl_eI b, ?_, ?_, Nat.le_trans (depth_eI a) (by decide), ?_⟩
  · show PySem.W.alike (eI a).toP (eI b).toP = true
    rw [toP_eI, toP_eI]
    simp only [PySem.W.alike]
    exact PySem.W.alike_ints a b
  · show (eI a).toP ≠ .none
    rw [toP_eI]
    exact fun q => nomatch q
  · show Q (.bl (!PySem.W.dataLt (eI b).toP (eI a).toP))
    have e : (!PySem.W.dataLt (eI b).toP (eI a).toP) = decide (a ≤ b) := by
      have := congrFun (congrFun (PySem.W.dataLe_rows (fun x : List Int => x)) a) b
      rw [PySem.W.dataLe_eq] at this
      rw [toP_eI, toP_eI]
      exact this
    rw [e]
    exact h
end DL

/-! Data layer: sorted rows, repr of rows, comprehensions over encoded lists. -/
namespace DL
open PySem L2
theorem dec2 {c A B : Prop} [Decidable c] (h1 : c → A) (h2 : ¬ c → B) : (decide c = true → A) ∧ (decide c = false → B) := ⟨fun h => h1 (of_decide_eq_true h), fun h => h2 (of_decide_eq_false h)⟩
section
variable {R : Rs} {g : TGd R} {e : TD R} {vs : List Nat} {Q : KL R} {ρ : List En} {m : R.M}
/-- a comprehension over an encoded list -/
theorem lcD_relT {α : Type} (enc : α → D) (r : α → D → Prop) : ∀ (l : List α) (acc : List D), (∀ a ∈ l, ∀ P : KD R, (∀ y ρ', r a y → wipeE ρ' vs = ρ → P y ρ' m) → g (enc a) ρ m fun ρ2 m2 => e zF ρ2 m2 P) → (∀ d y, r d y → y.firm) → acc.length + l.length ≤ sizeLine →
    (∀ ys, All2 r l ys → Q (acc ++ ys) ρ m) → lcD g bYes e vs Q (l.map enc) acc ρ m
  | [], acc, _, _, _, hq => by
    have := hq [] .nil
    rw [List.append_nil] at this
    exact this
  | d :: ds, acc, h, hf, hl, hq => by
    rw [List.length_cons] at hl
    have h1 := h d (List.mem_cons_self ..) (fun y ρ4 m4 => y.firm ∧ acc.length < sizeLine ∧ lcD g bYes e vs Q (ds.map enc) (acc ++ [y]) (wipeE ρ4 vs) m4) fun y ρ' hr hw => by
      refine ⟨hf d y hr, by omega, ?_⟩
      rw [hw]
      exact lcD_relT enc r ds (acc ++ [y]) (fun d hd => h d (List.mem_cons_of_mem _ hd)) hf (by rw [List.length_append, List.length_singleton]; omega) fun ys hy => by
        rw [List.append_assoc]
        exact hq (y :: ys) (.cons hr hy)
    show g (enc d) ρ m _
    have e1 : (fun (ρ2 : List En) (m2 : R.M) => bYes zF ρ2 m2 fun b ρ3 m3 => (b = true → e zF ρ3 m3 fun y ρ4 m4 => y.firm ∧ acc.length < sizeLine ∧ lcD g bYes e vs Q (ds.map enc) (acc ++ [y]) (wipeE ρ4 vs) m4) ∧ (b = false → lcD g bYes e vs Q (ds.map enc) acc (wipeE ρ3 vs) m3)) = fun ρ2 m2 => e zF ρ2 m2 fun y ρ4 m4 => y.firm ∧ acc.length < sizeLine ∧ lcD g bYes e vs Q (ds.map enc) (acc ++ [y]) (wipeE ρ4 vs) m4 := by
      funext ρ2 m2
      apply propext
      constructor
      · intro h; exact h.1 rfl
      · intro h; exact ⟨fun _ => h, fun q => by cases q⟩
    rw [e1]
    exact h1
theorem lcD_mapT {α : Type} (enc : α → D) (f : α → D) (l : List α) (acc : List D) (h : ∀ a ∈ l, ∀ P : KD R, (∀ ρ', wipeE ρ' vs = ρ → P (f a) ρ' m) → g (enc a) ρ m fun ρ2 m2 => e zF ρ2 m2 P) (hf : ∀ d, (f d).firm) (hl : acc.length + l.length ≤ sizeLine) (hq : Q (acc ++ l.map f) ρ m) : lcD g bYes e vs Q (l.map enc) acc ρ m :=
  lcD_relT enc (fun d y => y = f d) l acc (fun d hd P hP => h d hd P fun ρ' hw => hP _ ρ' rfl hw) (fun d y hy => by rw [hy]; exact hf d) hl fun ys hy => by rw [hy.eq_map]; exact hq
end
theorem lcD_filterT {α : Type} {R : Rs} {g : TGd R} {t : TB R} {e : TD R} {vs : List Nat} {Q : KL R} {ρ : List En} {m : R.M} (enc : α → D) (p : α → Bool) (f : α → D) : ∀ (l : List α) (acc : List D),
    (∀ d ∈ l, ∀ P : KB R, (∀ ρ', (p d = true → ∀ P2 : KD R, (∀ ρ'', wipeE ρ'' vs = ρ → P2 (f d) ρ'' m) → e zF ρ' m P2) → wipeE ρ' vs = ρ → P (p d) ρ' m) → g (enc d) ρ m fun ρ2 m2 => t zF ρ2 m2 P) →
    (∀ d, (f d).firm) → acc.length + l.length ≤ sizeLine → Q (acc ++ (l.filter p).map f) ρ m → lcD g t e vs Q (l.map enc) acc ρ m
  | [], acc, _, _, _, hq => by
    rw [List.filter_nil, List.map_nil, List.append_nil] at hq
    exact hq
  | d :: ds, acc, h, hf, hl, hq => by
    rw [List.length_cons] at hl
    refine h d (List.mem_cons_self ..) _ fun ρ' he hw => ⟨fun hb => he hb _ fun ρ'' hw2 => ⟨hf d, by omega, ?_⟩, fun hb => ?_⟩
    · rw [hw2]
      refine lcD_filterT enc p f ds (acc ++ [f d]) (fun d hd => h d (List.mem_cons_of_mem _ hd)) hf (by rw [List.length_append, List.length_singleton]; omega) ?_
      rw [List.filter_cons_of_pos hb, List.map_cons] at hq
      rw [List.append_assoc]
      exact hq
    · rw [hw]
      refine lcD_filterT enc p f ds acc (fun d hd => h d (List.mem_cons_of_mem _ hd)) hf (by omega) ?_
      rw [List.filter_cons_of_neg (by rw [hb]; decide)] at hq
      exact hq

/-- a comprehension whose items are all of a kind -/
theorem lcD_all {α β : Type} {R : Rs} {g : TGd R} {e : TD R} {vs : List Nat} {Q : KL R} {ρ : List En} {m : R.M} (enc : α → D) (en2 : β → D) (p : β → Prop) (l : List α) (h : ∀ a ∈ l, ∀ P : KD R, (∀ b ρ', p b → wipeE ρ' vs = ρ → P (en2 b) ρ' m) → g (enc a) ρ m fun ρ2 m2 => e zF ρ2 m2 P) (hf : ∀ b, (en2 b).firm) (hl : l.length ≤ sizeLine)
    (hq : ∀ bs : List β, bs.length = l.length → (∀ b ∈ bs, p b) → Q (bs.map en2) ρ m) : lcD g bYes e vs Q (l.map enc) [] ρ m := by
  refine lcD_relT enc (fun _ y => ∃ b, y = en2 b ∧ p b) l [] (fun a ha P hP => h a ha P fun b ρ' hb hw => hP _ ρ' ⟨b, rfl, hb⟩ hw) (fun _ y hy => by obtain ⟨b, rfl, _⟩ := hy; exact hf b) (by simpa using hl) fun ys hy => ?_
  obtain ⟨bs, rfl, h2⟩ := hy.choose
  exact hq bs h2.length.symm (All2.right (P := p) (fun _ _ z => z) h2)
/-- a comprehension that moves the state: an invariant over what is done -/
theorem lcD_inv {α : Type} {R : Rs} {g : TGd R} {e : TD R} {vs : List Nat} {Q : KL R} {ρ : List En} (enc : α → D) (I : List α → List D → R.M → Prop) : ∀ (l done : List α) (acc : List D) (m : R.M), I done acc m →
    (∀ a ∈ l, ∀ done acc m, I done acc m → ∀ P : KD R, (∀ y ρ' m', y.firm → wipeE ρ' vs = ρ → I (done ++ [a]) (acc ++ [y]) m' → P y ρ' m') → g (enc a) ρ m fun ρ2 m2 => e zF ρ2 m2 P) → acc.length + l.length ≤ sizeLine →
    (∀ ys m', I (done ++ l) ys m' → Q ys ρ m') → lcD g bYes e vs Q (l.map enc) acc ρ m
  | [], done, acc, m, hI, _, _, hq => by
    have := hq acc m
    rw [List.append_nil] at this
    exact this hI
  | d :: ds, done, acc, m, hI, h, hl, hq => by
    rw [List.length_cons] at hl
    have h1 := h d (List.mem_cons_self ..) done acc m hI (fun y ρ4 m4 => y.firm ∧ acc.length < sizeLine ∧ lcD g bYes e vs Q (ds.map enc) (acc ++ [y]) (wipeE ρ4 vs) m4) fun y ρ' m' hf hw hI' => by
      refine ⟨hf, by omega, ?_⟩
      rw [hw]
      exact lcD_inv enc I ds (done ++ [d]) (acc ++ [y]) m' hI' (fun d hd => h d (List.mem_cons_of_mem _ hd)) (by rw [List.length_append, List.length_singleton]; omega) fun ys m' hy => by
        rw [List.append_assoc] at hy
        exact hq ys m' hy
    show g (enc d) ρ m _
    have e1 : (fun (ρ2 : List En) (m2 : R.M) => bYes zF ρ2 m2 fun b ρ3 m3 => (b = true → e zF ρ3 m3 fun y ρ4 m4 => y.firm ∧ acc.length < sizeLine ∧ lcD g bYes e vs Q (ds.map enc) (acc ++ [y]) (wipeE ρ4 vs) m4) ∧ (b = false → lcD g bYes e vs Q (ds.map enc) acc (wipeE ρ3 vs) m3)) = fun ρ2 m2 => e zF ρ2 m2 fun y ρ4 m4 => y.firm ∧ acc.length < sizeLine ∧ lcD g bYes e vs Q (ds.map enc) (acc ++ [y]) (wipeE ρ4 vs) m4 := by
      funext ρ2 m2
      apply propext
      constructor
      · intro h; exact h.1 rfl
      · intro h; exact ⟨fun _ => h, fun q => by cases q⟩
    rw [e1]
    exact h1
theorem ndec2 {c A B : Prop} [Decidable c] (h1 : ¬ c → A) (h2 : c → B) : ((!decide c) = true → A) ∧ ((!decide c) = false → B) := by
  by_cases k : c
  · rw [decide_eq_true k]; exact ⟨fun q => (nomatch q), fun _ => h2 k⟩
  · rw [decide_eq_false k]; exact ⟨fun _ => h1 k, fun q => nomatch q⟩
theorem size1000 {n : Nat} (h : n ≤ 1000) : n ≤ sizeLine := by rw [sizeLine_eq]; omega
/-- where items stand -/
theorem ixN_ok {n : Nat} {i : Int} (h0 : 0 ≤ i) (h1 : i < n) : ixN n i = some i.toNat := by
  unfold ixN
  rw [if_pos h0, if_pos h1]
theorem eraseIdx_map {α β : Type} (f : α → β) : ∀ (l : List α) (k : Nat), (l.map f).eraseIdx k = (l.eraseIdx k).map f
  | [], _ => rfl
  | _ :: _, 0 => rfl
  | a :: l, k + 1 => by show f a :: (l.map f).eraseIdx k = _; rw [eraseIdx_map f l k]; rfl
theorem erase_perm {α : Type} : ∀ (l : List α) (k : Nat) (a : α), l[k]? = some a → List.Perm l (a :: l.eraseIdx k)
  | [], _, _, h => by cases h
  | b :: l, 0, a, h => by cases h; exact List.Perm.refl _
  | b :: l, k + 1, a, h => (List.Perm.cons b (erase_perm l k a h)).trans (List.Perm.swap a b _)
theorem seq_ok {n : Nat} {i : Int} (h0 : 0 ≤ i) (h1 : i < n) : seqIndex? i n = some i.toNat := (ixN_seq (ixN_ok h0 h1)).1
theorem pls_eI (l : List (List Int)) : pls (l.map eI) = true := pl_eII l
theorem atI_enc {α : Type} {enc : α → D} {l : List α} {i : Int} {a : α} (h0 : 0 ≤ i) (h : l[i.toNat]? = some a) : atI (l.map enc) i = some (enc a) := by
  have hlt : i.toNat < l.length := (List.getElem?_eq_some_iff.mp h).1
  unfold atI
  rw [List.length_map, ixN_ok h0 (by omega)]
  show (l.map enc)[i.toNat]? = _
  rw [List.getElem?_map, h]
  rfl
theorem get_some {α : Type} {l : List α} {i : Int} (h0 : 0 ≤ i) (h1 : i < l.length) : ∃ a, l[i.toNat]? = some a := ⟨_, List.getElem?_eq_getElem (by omega : i.toNat < l.length)⟩
theorem cut_none_some {α : Type} {enc : α → D} {l : List α} {i : Int} (h0 : 0 ≤ i) (h1 : i ≤ l.length) : cutD (l.map enc) none (some i) = (l.take i.toNat).map enc := by
  unfold cutD
  have e1 : HT.sIx (l.map enc).length 0 none = 0 := rfl
  have e2 : HT.sIx (l.map enc).length (l.map enc).length (some i) = i.toNat := by
    rw [List.length_map]
    show (if i < 0 then (i + (l.length : Int)).toNat else min i.toNat l.length) = i.toNat
    rw [if_neg (by omega)]; omega
  rw [e1, e2, List.drop_zero, List.map_take]
  rfl
theorem cut_some_none {α : Type} {enc : α → D} {l : List α} {i : Int} (h0 : 0 ≤ i) (h1 : i ≤ l.length) : cutD (l.map enc) (some i) none = (l.drop i.toNat).map enc := by
  unfold cutD
  have e1 : HT.sIx (l.map enc).length 0 (some i) = i.toNat := by
    rw [List.length_map]
    show (if i < 0 then (i + (l.length : Int)).toNat else min i.toNat l.length) = i.toNat
    rw [if_neg (by omega)]; omega
  have e2 : HT.sIx (l.map enc).length (l.map enc).length none = l.length := by
    rw [List.length_map]
    rfl
  rw [e1, e2, List.map_drop]
  exact List.take_of_length_le (by simp)

/-! ### sorted rows -/
abbrev leRow (a b : List Int) : Bool := decide (a ≤ b)
theorem leD_eI (a b : List Int) : leD (eI a) (eI b) = leRow a b := by
  have := congrFun (congrFun (PySem.W.dataLe_rows (fun x : List Int => x)) a) b
  rw [PySem.W.dataLe_eq] at this
  show PySem.W.dataLe false D.toP (eI a) (eI b) = _
  rw [PySem.W.dataLe_eq]
  show cond false _ (!PySem.W.dataLt (eI b).toP (eI a).toP) = _
  rw [toP_eI, toP_eI]
  exact this
theorem sort_eII (l : List (List Int)) : (l.map eI).mergeSort leD = (l.mergeSort leRow).map eI :=
  (PySem.W.sort_maps (r := leRow) (s := leD) eI fun a _ b _ => (leD_eI a b).symm).symm
theorem alike_rows (l : List (List Int)) : PySem.W.AllAlike ((l.map eI).map D.toP) := by
  rw [List.map_map]
  refine PySem.W.AllAlike.of fun a b => ?_
  show PySem.W.alike (eI a).toP (eI b).toP = true
  rw [toP_eI, toP_eI]
  simp only [PySem.W.alike]
  exact PySem.W.alike_ints a b
theorem sortable_rows (l : List (List Int)) : PySem.W.Sortable ((l.map eI).map D.toP) := by
  rw [List.map_map]
  refine PySem.W.Sortable.others fun a => ?_
  show (eI a).toP ≠ .none ∧ ∀ xs, (eI a).toP ≠ .tuple xs
  rw [toP_eI]
  refine ⟨?_, fun _ q => ?_⟩
  · exact fun q => nomatch q
  · exact nomatch q
theorem depth_rows (l : List (List Int)) : ∀ d ∈ l.map eI, d.toP.depth ≤ 60 := fun d hd => by
  obtain ⟨a, _, rfl⟩ := List.mem_map.mp hd
  exact Nat.le_trans (depth_eI a) (by decide)
theorem any_eI (a : List Int) (b : List (List Int)) (w : Vw) (ρ : List En) : ((toPs (b.map eI)).any fun d => PyData.eqv d (flat w ρ (eI a)).toP) = decide (a ∈ b) := by
  rw [toPs_map, List.map_map, List.any_map]
  rw [Bool.eq_iff_iff, List.any_eq_true, decide_eq_true_eq]
  constructor
  · rintro ⟨r, hr, e⟩
    have e' : PyData.eqv (eI r).toP (eI a).toP = true := e
    rw [eqv_eI, decide_eq_true_eq] at e'
    exact e' ▸ hr
  · intro hr
    refine ⟨a, hr, ?_⟩
    show PyData.eqv (eI a).toP (eI a).toP = true
    rw [eqv_eI, decide_eq_true rfl]
theorem eqv_flat_eI (w w' : Vw) (ρ ρ' : List En) (a b : List Int) : PyData.eqv (flat w ρ (eI a)).toP (flat w' ρ' (eI b)).toP = decide (a = b) := eqv_eI a b
theorem eqv_flat_eII (w w' : Vw) (ρ ρ' : List En) (a b : List (List Int)) : PyData.eqv (flat w ρ (eII a)).toP (flat w' ρ' (eII b)).toP = decide (a = b) := eqv_eII a b
theorem leRow_total (a b : List Int) : leRow a b = true ∨ leRow b a = true := by
  simp only [leRow, decide_eq_true_eq]
  exact List.le_total a b
theorem sort2 (a b : List Int) : [a, b].mergeSort leRow = if a ≤ b then [a, b] else [b, a] := by
  by_cases h : a ≤ b
  · rw [if_pos h]
    exact List.mergeSort_of_pairwise (by simp [leRow, h])
  · rw [if_neg h]
    have h2 : b ≤ a := (List.le_total a b).resolve_left h
    have hs := List.pairwise_mergeSort (le := leRow) (fun a b c h1 h2 => by simp only [leRow, decide_eq_true_eq] at *; exact List.le_trans h1 h2) (fun a b => by simpa [Bool.or_eq_true] using leRow_total a b) [a, b]
    have hp := List.mergeSort_perm [a, b] leRow
    refine List.Perm.eq_of_pairwise (le := fun a b => leRow a b = true) (fun a b _ _ h1 h2 => ?_) hs (by simp [leRow, h2]) (hp.trans (List.Perm.swap b a []))
    simp only [leRow, decide_eq_true_eq] at h1 h2
    exact List.le_antisymm h1 h2

/-! ### repr of rows -/
theorem layall_w {ps : List PyData} {n : Nat} (h : ∀ d ∈ ps, d.weight ≤ n) : PyData.weightAll ps ≤ ps.length * (n + 1) := by
  induction ps with
  | nil => simp [PyData.weightAll]
  | cons x xs ih =>
    have h1 := h x (List.mem_cons_self ..)
    have h2 := ih fun d hd => h d (List.mem_cons_of_mem _ hd)
    rw [PyData.weightAll, List.length_cons, Nat.add_mul]
    omega
theorem showAll {ps : List PyData} (h : ∀ d ∈ ps, d.showable = true) : PyData.showableAll ps = true := by
  induction ps with
  | nil => rfl
  | cons x xs ih => rw [PyData.showableAll, h x (List.mem_cons_self ..), ih fun d hd => h d (List.mem_cons_of_mem _ hd)]; rfl
theorem dictAll {ps : List PyData} (h : ∀ d ∈ ps, d.hasDict = false) : PyData.hasDictAll ps = false := by
  induction ps with
  | nil => rfl
  | cons x xs ih => rw [PyData.hasDictAll, h x (List.mem_cons_self ..), ih fun d hd => h d (List.mem_cons_of_mem _ hd)]; rfl
theorem shortAll {ps : List PyData} (h : ∀ d ∈ ps, d.intsShort 13 = true) : PyData.intsShortAll 13 ps = true := by
  induction ps with
  | nil => rfl
  | cons x xs ih => rw [PyData.intsShortAll, h x (List.mem_cons_self ..), ih fun d hd => h d (List.mem_cons_of_mem _ hd)]; rfl
/-- the facts repr wants of a datum -/
structure Nice (d : PyData) (w : Nat) : Prop where
  show_ : d.showable = true
  dict : d.hasDict = false
  lay : d.canLay0 = true
  short : d.intsShort 13 = true
  w : d.weight ≤ w
theorem nice_int {i : Int} (h : i.natAbs < 10 ^ 12) : Nice (.int i) 40 := by
  have hl : i.natAbs ≠ 0 → i.natAbs.log2 < 40 := fun hz => (Nat.log2_lt hz).mpr (Nat.lt_trans h (by decide))
  have hl2 : i.natAbs.log2 < 40 := by
    by_cases hz : i.natAbs = 0
    · rw [hz]; decide
    · exact hl hz
  refine ⟨?_, by simp only [PyData.hasDict], by simp only [PyData.canLay0], ?_, ?_⟩
  · simp only [PyData.showable, decide_eq_true_eq]; omega
  · have := PyData.intsShortAll_ints [i] (fun n hn => by rw [List.mem_singleton.mp hn]; exact h)
    simp only [List.map_cons, List.map_nil, PyData.intsShortAll, Bool.and_true] at this
    exact this
  · rw [PyData.weight]
    split <;> omega
theorem nice_list {ps : List PyData} {n k : Nat} (h : ∀ d ∈ ps, Nice d n) (hk : ps.length ≤ k) : Nice (.list ps) (k * (n + 1)) := by
  refine ⟨?_, ?_, lay_list fun d hd => (h d hd).lay, ?_, ?_⟩
  · rw [PyData.showable]; exact showAll fun d hd => (h d hd).show_
  · rw [PyData.hasDict]; exact dictAll fun d hd => (h d hd).dict
  · rw [PyData.intsShort]; exact shortAll fun d hd => (h d hd).short
  · rw [PyData.weight]
    exact Nat.le_trans (layall_w fun d hd => (h d hd).w) (Nat.mul_le_mul hk (Nat.le_refl _))
theorem Nice.shown_le {d : PyData} {n : Nat} (h : Nice d n) (hd : d.depth ≤ 60) (hn : n ≤ 2 ^ 20) : d.shown.length ≤ sizeLine := by
  refine PyData.shown_fits_of_layable0 (B := 13) (by decide) (by decide) ?_ h.short
  show (PyData.canLay0 d && decide (PyData.depth d ≤ 64) && decide (PyData.weight d ≤ 2 ^ 20)) = true
  rw [h.lay, decide_eq_true (Nat.le_trans hd (by decide)), decide_eq_true (Nat.le_trans h.w hn)]
  rfl
theorem nice_eI {l : List Int} {k : Nat} (h : ∀ i ∈ l, i.natAbs < 10 ^ 12) (hk : l.length ≤ k) : Nice (eI l).toP (k * 41) := by
  rw [toP_eI]
  refine nice_list (fun d hd => ?_) (by rwa [List.length_map])
  obtain ⟨i, hi, rfl⟩ := List.mem_map.mp hd
  exact nice_int (h i hi)
theorem nice_eII {l : List (List Int)} {k c : Nat} (h : ∀ r ∈ l, r.length ≤ c ∧ ∀ i ∈ r, i.natAbs < 10 ^ 12) (hk : l.length ≤ k) : Nice (eII l).toP (k * (c * 41 + 1)) := by
  have e : (eII l).toP = .list (l.map fun r => (eI r).toP) := by
    rw [toP_eII]
    congr 1
    exact List.map_congr_left fun r _ => (toP_eI r).symm
  rw [e]
  refine nice_list (fun d hd => ?_) (by rwa [List.length_map])
  obtain ⟨i, hi, rfl⟩ := List.mem_map.mp hd
  exact nice_eI (h i hi).2 (h i hi).1
theorem repr_eII {w : Vw} {ρ : List En} {l : List (List Int)} {k c : Nat} {Q : D → Prop} (h : ∀ r ∈ l, r.length ≤ c ∧ ∀ i ∈ r, i.natAbs < 10 ^ 12) (hk : l.length ≤ k) (hs : k * (c * 41 + 1) ≤ 2 ^ 20) (hq : Q (.str (eII l).toP.shown)) : dRepr w ρ [eII l] Q := by
  have N := nice_eII h hk
  have dp : (eII l).toP.depth ≤ 60 := Nat.le_trans (depth_eII l) (by decide)
  exact ⟨trivial, pl_eII l, N.show_, N.dict, dp, N.shown_le dp hs, hq⟩
end DL

/-! printed by gen.py from the linked text -/
namespace G77
open PySem L2 DL
def top (i : Nat) : Stmt := PySem.Challenge.pw_layerask_k77_whole_counts_of_bags.main.body.getD i (.Pass ⟨0, 0, 0, 0⟩)
abbrev s_mark : Stmt := top 1
abbrev s_product : Stmt := top 2
abbrev s_same_bag : Stmt := top 3
abbrev s_count_of : Stmt := top 4
abbrev s_bag_blame : Stmt := top 5
abbrev s_most_same : Stmt := top 6
abbrev s__law_state : Stmt := top 8
abbrev s__law_draw : Stmt := top 9
abbrev s__law_pick : Stmt := top 10
abbrev s__law_rows : Stmt := top 11
abbrev s__law_mark : Stmt := top 12
abbrev s__law_product : Stmt := top 13
abbrev s__law_turned : Stmt := top 14
abbrev s__law_times : Stmt := top 15
abbrev s__law_other : Stmt := top 16
abbrev s__law_due : Stmt := top 17
abbrev s_law : Stmt := top 18
structure Txt (K : PySem.W.Frag) (mg : Str → Option Value) : Prop where
  f_mark : TopDef K mg "mark" s_mark
  f_product : TopDef K mg "product" s_product
  f_same_bag : TopDef K mg "same_bag" s_same_bag
  f_count_of : TopDef K mg "count_of" s_count_of
  f_bag_blame : TopDef K mg "bag_blame" s_bag_blame
  f_most_same : TopDef K mg "most_same" s_most_same
  f__law_state : TopDef K mg "_law_state" s__law_state
  f__law_draw : TopDef K mg "_law_draw" s__law_draw
  f__law_pick : TopDef K mg "_law_pick" s__law_pick
  f__law_rows : TopDef K mg "_law_rows" s__law_rows
  f__law_mark : TopDef K mg "_law_mark" s__law_mark
  f__law_product : TopDef K mg "_law_product" s__law_product
  f__law_turned : TopDef K mg "_law_turned" s__law_turned
  f__law_times : TopDef K mg "_law_times" s__law_times
  f__law_other : TopDef K mg "_law_other" s__law_other
  f__law_due : TopDef K mg "_law_due" s__law_due
  f_law : TopDef K mg "law" s_law
  no_abs : mg "abs" = none
  no_int : mg "int" = none
  no_len : mg "len" = none
  no_list : mg "list" = none
  no_max : mg "max" = none
  no_min : mg "min" = none
  no_range : mg "range" = none
  no_sorted : mg "sorted" = none
section
variable {P : Program} {w : World} {K : PySem.W.Frag} {mg : Str → Option Value} {base : Heap}
abbrev b1_mark : TSd R0 := (sSet 3 (eOp dMod (eOp dAdd (eOp dMul (eVar 3) (eVar 1)) (eVar 4)) (eVar 2)))
abbrev t_mark : TSd R0 := (sSeq (sSet 3 (eC (.int 0)))
    (sSeq (sFor (iLst (eFz (eRevO (eVar 0)))) (tName 4) (b1_mark))
    (sRet (eVar 3))))
theorem sc_mark : FnScope ["row", "s", "p", "total", "number"] ["row", "s", "p"] (defScope s_mark) := ⟨rfl, rfl, rfl, by decide +kernel, rfl, by decide +kernel, by decide +kernel⟩
theorem dv_mark (T : Txt K mg) {sp : SpD R0} (hsp : ∀ ds m Q Z, ds.length = 3 → sp ds m Q Z → t_mark { nx := fun _ m => Q .non m, rt := Q, rz := fun x _ m => Z x m } (startE 5 ds) m) :
    DefOk P w K mg base R0 1 "mark" ["row", "s", "p"] sp := by
  have nd := (sc_mark).nd
  exact DefOk.mk' (k := 0) (t := t_mark) T.f_mark sc_mark (fun _ _ _ _ _ _ us hl => match us, hl with | [_, _, _], _ => rfl) (fun f cdv A outer s H E hr hG tk =>
    (dss_cons (ds_set (i := 3) nd rfl (Or.inl rfl) de_int)
    (dss_cons (ds_for (passes_of rfl) rfl (di_list (DO.fz (do_rev (de_var (pv 0))))) (dg_name (i := 4) nd rfl (by first | exact Or.inl rfl | exact Or.inr rfl)) (dss_one (ds_set (i := 3) nd rfl (Or.inl rfl) (de_mod (de_add (de_mul (de_var (pv 3)) (de_var (pv 1))) (de_var (pv 4))) (de_var (pv 2))))))
    (dss_one (ds_ret (de_var (pv 3))))))) hsp
abbrev b1_product (sp_mark : SpD R0) : TSd R0 := (sSet 4 (eOp dMod (eOp dMul (eVar 4) (eOp dSub (eVar 2) (eCall sp_mark (aCons (eVar 5) (aCons (eVar 1) (aCons (eVar 3) aNil)))))) (eVar 3)))
abbrev t_product (sp_mark : SpD R0) : TSd R0 := (sSeq (sSet 4 (eOp dMod (eC (.int 1)) (eVar 3)))
    (sSeq (sFor (iLst (eVar 0)) (tName 5) (b1_product sp_mark))
    (sRet (eVar 4))))
theorem sc_product : FnScope ["rows", "s", "t", "p", "result", "row"] ["rows", "s", "t", "p"] (defScope s_product) := ⟨rfl, rfl, rfl, by decide +kernel, rfl, by decide +kernel, by decide +kernel⟩
theorem dv_product (T : Txt K mg) {sp_mark : SpD R0} (D_mark : DefOk P w K mg base R0 1 "mark" ["row", "s", "p"] sp_mark) {sp : SpD R0} (hsp : ∀ ds m Q Z, ds.length = 4 → sp ds m Q Z → t_product sp_mark { nx := fun _ m => Q .non m, rt := Q, rz := fun x _ m => Z x m } (startE 6 ds) m) :
    DefOk P w K mg base R0 2 "product" ["rows", "s", "t", "p"] sp := by
  have nd := (sc_product).nd
  exact DefOk.mk' (k := 1) (t := t_product sp_mark) T.f_product sc_product (fun _ _ _ _ _ _ us hl => match us, hl with | [_, _, _, _], _ => rfl) (fun f cdv A outer s H E hr hG tk =>
    (dss_cons (ds_set (i := 4) nd rfl (Or.inl rfl) (de_mod de_int (de_var (pv 3))))
    (dss_cons (ds_for (passes_of rfl) rfl (di_list (de_var (pv 0))) (dg_name (i := 5) nd rfl (by first | exact Or.inl rfl | exact Or.inr rfl)) (dss_one (ds_set (i := 4) nd rfl (Or.inl rfl) (de_mod (de_mul (de_var (pv 4)) (de_sub (de_var (pv 2)) (de_call D_mark (hr.mono (by decide)) hG rfl tk (da_cons (de_var (pv 5)) (da_cons (de_var (pv 1)) (da_cons (de_var (pv 3)) da_nil)))))) (de_var (pv 3))))))
    (dss_one (ds_ret (de_var (pv 4))))))) hsp
abbrev t_same_bag (sp_product : SpD R0) : TSd R0 := (sRet (eAnd (eOp dEq (eCl dLen (aCons (eVar 0) aNil)) (eCl dLen (aCons (eVar 1) aNil))) (eOp dEq (eCall sp_product (aCons (eVar 0) (aCons (eVar 2) (aCons (eVar 3) (aCons (eVar 4) aNil))))) (eCall sp_product (aCons (eVar 1) (aCons (eVar 2) (aCons (eVar 3) (aCons (eVar 4) aNil))))))))
theorem sc_same_bag : FnScope ["rows", "others", "s", "t", "p"] ["rows", "others", "s", "t", "p"] (defScope s_same_bag) := ⟨rfl, rfl, rfl, by decide +kernel, rfl, by decide +kernel, by decide +kernel⟩
theorem dv_same_bag (T : Txt K mg) {sp_product : SpD R0} (D_product : DefOk P w K mg base R0 2 "product" ["rows", "s", "t", "p"] sp_product) {sp : SpD R0} (hsp : ∀ ds m Q Z, ds.length = 5 → sp ds m Q Z → t_same_bag sp_product { nx := fun _ m => Q .non m, rt := Q, rz := fun x _ m => Z x m } (startE 5 ds) m) :
    DefOk P w K mg base R0 3 "same_bag" ["rows", "others", "s", "t", "p"] sp := by
  have nd := (sc_same_bag).nd
  exact DefOk.mk' (k := 2) (t := t_same_bag sp_product) T.f_same_bag sc_same_bag (fun _ _ _ _ _ _ us hl => match us, hl with | [_, _, _, _, _], _ => rfl) (fun f cdv A outer s H E hr hG tk =>
    (dss_one (ds_ret (de_and (de_eq hr.units (de_len rfl T.no_len (da_cons (de_var (pv 0)) da_nil)) (de_len rfl T.no_len (da_cons (de_var (pv 1)) da_nil))) (de_one (de_eq hr.units (de_call D_product (hr.mono (by decide)) hG rfl tk (da_cons (de_var (pv 0)) (da_cons (de_var (pv 2)) (da_cons (de_var (pv 3)) (da_cons (de_var (pv 4)) da_nil))))) (de_call D_product (hr.mono (by decide)) hG rfl tk (da_cons (de_var (pv 1)) (da_cons (de_var (pv 2)) (da_cons (de_var (pv 3)) (da_cons (de_var (pv 4)) da_nil))))))))))) hsp
abbrev t_count_of : TSd R0 := (sRet (eCl dLen (aCons (eFz (eLc (iLst (eVar 0)) (tName 2) (bOf (eOp dEq (eVar 2) (eVar 1))) (eVar 2) [2])) aNil)))
theorem sc_count_of : FnScope ["rows", "row", "other"] ["rows", "row"] (defScope s_count_of) := ⟨rfl, rfl, rfl, by decide +kernel, rfl, by decide +kernel, by decide +kernel⟩
theorem dv_count_of (T : Txt K mg) {sp : SpD R0} (hsp : ∀ ds m Q Z, ds.length = 2 → sp ds m Q Z → t_count_of { nx := fun _ m => Q .non m, rt := Q, rz := fun x _ m => Z x m } (startE 3 ds) m) :
    DefOk P w K mg base R0 1 "count_of" ["rows", "row"] sp := by
  have nd := (sc_count_of).nd
  exact DefOk.mk' (k := 0) (t := t_count_of) T.f_count_of sc_count_of (fun _ _ _ _ _ _ us hl => match us, hl with | [_, _], _ => rfl) (fun f cdv A outer s H E hr hG tk =>
    (dss_one (ds_ret (de_len rfl T.no_len (da_cons (DO.fz (do_lc (own := [("other", 2)]) rfl nd (di_list (de_var (pv 0))) (blkOk_by (own := [("other", 2)]) (by kernel_rfl)) (fun _ => (dg_name (i := 2) nd rfl (by first | exact Or.inl rfl | exact Or.inr rfl))) (fun _ => (dts_one (dt_eq hr.units (de_var (pv 2)) (de_var (pv 1))))) (fun _ => (de_var (pv 2))) (by decide))) da_nil))))) hsp
abbrev b1_bag_blame (sp_same_bag : SpD R0) (sp_mark : SpD R0) (sp_count_of : SpD R0) : TSd R0 := (sIf (bAnd (bOf (eOp dNe (eVar 7) (eVar 6))) (bOf (eOp dEq (eCall sp_mark (aCons (eVar 7) (aCons (eVar 2) (aCons (eVar 4) aNil)))) (eCall sp_mark (aCons (eVar 6) (aCons (eVar 2) (aCons (eVar 4) aNil))))))) (sRet (eTup (aCons (eC (.str "rows")) (aCons (eFz (eClO dListO (aCons (eVar 6) aNil))) (aCons (eFz (eClO dListO (aCons (eVar 7) aNil))) aNil))))) sNext)
abbrev b2_bag_blame (sp_same_bag : SpD R0) (sp_mark : SpD R0) (sp_count_of : SpD R0) : TSd R0 := (sIf (bOf (eOp dGt (eCall sp_count_of (aCons (eVar 0) (aCons (eVar 6) aNil))) (eCall sp_count_of (aCons (eVar 1) (aCons (eVar 6) aNil))))) (sFor (iLst (eVar 1)) (tName 7) (b1_bag_blame sp_same_bag sp_mark sp_count_of)) sNext)
abbrev t_bag_blame (sp_same_bag : SpD R0) (sp_mark : SpD R0) (sp_count_of : SpD R0) : TSd R0 := (sSeq (sIf (bOr (bOf (eOp dEq (eFz (eClO dSorted (aCons (eVar 0) aNil))) (eFz (eClO dSorted (aCons (eVar 1) aNil))))) (bNot (bOf (eCall sp_same_bag (aCons (eVar 0) (aCons (eVar 1) (aCons (eVar 2) (aCons (eVar 3) (aCons (eVar 4) aNil))))))))) (sRet (eC .non)) sNext)
    (sSeq (sSet 5 (eFz (eClO dSorted (aCons (eFz (eLc (iLst (eVar 0)) (tName 6) bYes (eCall sp_mark (aCons (eVar 6) (aCons (eVar 2) (aCons (eVar 4) aNil)))) [6])) aNil))))
    (sSeq (sIf (bOf (eOp dNe (eVar 5) (eFz (eClO dSorted (aCons (eFz (eLc (iLst (eVar 1)) (tName 6) bYes (eCall sp_mark (aCons (eVar 6) (aCons (eVar 2) (aCons (eVar 4) aNil)))) [6])) aNil))))) (sRet (eTup (aCons (eC (.str "point")) (aCons (eVar 3) aNil)))) sNext)
    (sSeq (sFor (iLst (eVar 0)) (tName 6) (b2_bag_blame sp_same_bag sp_mark sp_count_of))
    (sRet (eC .non))))))
theorem sc_bag_blame : FnScope ["rows", "others", "s", "t", "p", "marks", "row", "other"] ["rows", "others", "s", "t", "p"] (defScope s_bag_blame) := ⟨rfl, rfl, rfl, by decide +kernel, rfl, by decide +kernel, by decide +kernel⟩
theorem dv_bag_blame (T : Txt K mg) {sp_same_bag : SpD R0} (D_same_bag : DefOk P w K mg base R0 3 "same_bag" ["rows", "others", "s", "t", "p"] sp_same_bag) {sp_mark : SpD R0} (D_mark : DefOk P w K mg base R0 1 "mark" ["row", "s", "p"] sp_mark) {sp_count_of : SpD R0} (D_count_of : DefOk P w K mg base R0 1 "count_of" ["rows", "row"] sp_count_of) {sp : SpD R0} (hsp : ∀ ds m Q Z, ds.length = 5 → sp ds m Q Z → t_bag_blame sp_same_bag sp_mark sp_count_of { nx := fun _ m => Q .non m, rt := Q, rz := fun x _ m => Z x m } (startE 8 ds) m) :
    DefOk P w K mg base R0 4 "bag_blame" ["rows", "others", "s", "t", "p"] sp := by
  have nd := (sc_bag_blame).nd
  exact DefOk.mk' (k := 3) (t := t_bag_blame sp_same_bag sp_mark sp_count_of) T.f_bag_blame sc_bag_blame (fun _ _ _ _ _ _ us hl => match us, hl with | [_, _, _, _, _], _ => rfl) (fun f cdv A outer s H E hr hG tk =>
    (dss_cons (ds_if (DW.pt (dw_or (dt_eq hr.units (DO.fz (do_sorted hr.units rfl T.no_sorted (da_cons (de_var (pv 0)) da_nil))) (DO.fz (do_sorted hr.units rfl T.no_sorted (da_cons (de_var (pv 1)) da_nil)))) (dw_or1 (dt_not (dt_val (de_call D_same_bag (hr.mono (by decide)) hG rfl tk (da_cons (de_var (pv 0)) (da_cons (de_var (pv 1)) (da_cons (de_var (pv 2)) (da_cons (de_var (pv 3)) (da_cons (de_var (pv 4)) da_nil))))))))))) (dss_one (ds_ret de_non)) dss_nil)
    (dss_cons (ds_set (i := 5) nd rfl (Or.inl rfl) (DO.fz (do_sorted hr.units rfl T.no_sorted (da_cons (DO.fz (do_lc (own := [("row", 6)]) rfl nd (di_list (de_var (pv 0))) (blkOk_by (own := [("row", 6)]) (by kernel_rfl)) (fun _ => (dg_name (i := 6) nd rfl (by first | exact Or.inl rfl | exact Or.inr rfl))) (fun _ => dts_nil) (fun _ => (de_call D_mark (hr.mono (by decide)) hG rfl takes0 (da_cons (de_var (pv 6)) (da_cons (de_var (pv 2)) (da_cons (de_var (pv 4)) da_nil))))) (by decide))) da_nil))))
    (dss_cons (ds_if (dt_ne hr.units (de_var (pv 5)) (DO.fz (do_sorted hr.units rfl T.no_sorted (da_cons (DO.fz (do_lc (own := [("row", 6)]) rfl nd (di_list (de_var (pv 1))) (blkOk_by (own := [("row", 6)]) (by kernel_rfl)) (fun _ => (dg_name (i := 6) nd rfl (by first | exact Or.inl rfl | exact Or.inr rfl))) (fun _ => dts_nil) (fun _ => (de_call D_mark (hr.mono (by decide)) hG rfl takes0 (da_cons (de_var (pv 6)) (da_cons (de_var (pv 2)) (da_cons (de_var (pv 4)) da_nil))))) (by decide))) da_nil)))) (dss_one (ds_ret (de_tup (da_cons de_str (da_cons (de_var (pv 3)) da_nil))))) dss_nil)
    (dss_cons (ds_for (passes_of rfl) rfl (di_list (de_var (pv 0))) (dg_name (i := 6) nd rfl (by first | exact Or.inl rfl | exact Or.inr rfl)) (dss_one (ds_if (dt_gt (de_call D_count_of (hr.mono (by decide)) hG rfl tk (da_cons (de_var (pv 0)) (da_cons (de_var (pv 6)) da_nil))) (de_call D_count_of (hr.mono (by decide)) hG rfl tk (da_cons (de_var (pv 1)) (da_cons (de_var (pv 6)) da_nil)))) (dss_one (ds_for (passes_of rfl) rfl (di_list (de_var (pv 1))) (dg_name (i := 7) nd rfl (by first | exact Or.inl rfl | exact Or.inr rfl)) (dss_one (ds_if (DW.pt (dw_and (dt_ne hr.units (de_var (pv 7)) (de_var (pv 6))) (dw_and1 (dt_eq hr.units (de_call D_mark (hr.mono (by decide)) hG rfl tk (da_cons (de_var (pv 7)) (da_cons (de_var (pv 2)) (da_cons (de_var (pv 4)) da_nil)))) (de_call D_mark (hr.mono (by decide)) hG rfl tk (da_cons (de_var (pv 6)) (da_cons (de_var (pv 2)) (da_cons (de_var (pv 4)) da_nil)))))))) (dss_one (ds_ret (de_tup (da_cons de_str (da_cons (DO.fz (do_list rfl T.no_list (da_cons (de_var (pv 6)) da_nil))) (da_cons (DO.fz (do_list rfl T.no_list (da_cons (de_var (pv 7)) da_nil))) da_nil)))))) dss_nil)))) dss_nil)))
    (dss_one (ds_ret de_non))))))) hsp
abbrev t_most_same : TSd R0 := (sRet (eCl dMin2 (aCons (eOp dMul (eVar 2) (eVar 2)) (aCons (eOp dMul (eOp dMul (eVar 2) (eVar 0)) (eCl dMax2 (aCons (eC (.int 1)) (aCons (eVar 1) aNil)))) aNil))))
theorem sc_most_same : FnScope ["many", "width", "p"] ["many", "width", "p"] (defScope s_most_same) := ⟨rfl, rfl, rfl, by decide +kernel, rfl, by decide +kernel, by decide +kernel⟩
theorem dv_most_same (T : Txt K mg) {sp : SpD R0} (hsp : ∀ ds m Q Z, ds.length = 3 → sp ds m Q Z → t_most_same { nx := fun _ m => Q .non m, rt := Q, rz := fun x _ m => Z x m } (startE 3 ds) m) :
    DefOk P w K mg base R0 1 "most_same" ["many", "width", "p"] sp := by
  have nd := (sc_most_same).nd
  exact DefOk.mk' (k := 0) (t := t_most_same) T.f_most_same sc_most_same (fun _ _ _ _ _ _ us hl => match us, hl with | [_, _, _], _ => rfl) (fun f cdv A outer s H E hr hG tk =>
    (dss_one (ds_ret (de_min2 rfl rfl T.no_min (da_cons (de_mul (de_var (pv 2)) (de_var (pv 2))) (da_cons (de_mul (de_mul (de_var (pv 2)) (de_var (pv 0))) (de_max2 rfl rfl T.no_max (da_cons de_int (da_cons (de_var (pv 1)) da_nil)))) da_nil)))))) hsp
abbrev b1__law_state : TSd RD := (sSet 1 (eOp dMod (eCl dToInt (aCons (eOp dAdd (eOp dMul (eVar 1) (eC (.int 31))) (eVar 2)) aNil)) (eC (.int 1000003))))
abbrev t__law_state : TSd RD := (sSeq (sSet 1 (eC (.int 7)))
    (sSeq (sFor (iLst (eVar 0)) (tName 2) (b1__law_state))
    (sRetSt (eLc (iLst (eVar 0)) (tName 2) bYes (eCl dAbs (aCons (eVar 2) aNil)) [2]) (eOp dAdd (eVar 1) (eC (.int 1))))))
theorem sc__law_state : FnScope ["_law_script", "_law_seed", "_law_cell"] ["_law_script"] (defScope s__law_state) := ⟨rfl, rfl, rfl, by decide +kernel, rfl, by decide +kernel, by decide +kernel⟩
theorem dv__law_state (T : Txt K mg) {sp : SpD RD} (hsp : ∀ ds m Q Z, ds.length = 1 → sp ds m Q Z → t__law_state { nx := fun _ m => Q .non m, rt := Q, rz := fun x _ m => Z x m } (startE 3 ds) m) :
    DefOk P w K mg base RD 1 "_law_state" ["_law_script"] sp := by
  have nd := (sc__law_state).nd
  exact DefOk.mk' (k := 0) (t := t__law_state) T.f__law_state sc__law_state (fun _ _ _ _ _ _ us hl => match us, hl with | [_], _ => rfl) (fun f cdv A outer s H E hr hG tk =>
    (dss_cons (ds_set (i := 1) nd rfl (Or.inl rfl) de_int)
    (dss_cons (ds_for (passes_of rfl) rfl (di_list (de_var (pv 0))) (dg_name (i := 2) nd rfl (by first | exact Or.inl rfl | exact Or.inr rfl)) (dss_one (ds_set (i := 1) nd rfl (Or.inl rfl) (de_mod (de_toInt rfl T.no_int (da_cons (de_add (de_mul (de_var (pv 1)) de_int) (de_var (pv 2))) da_nil)) de_int))))
    (dss_one (ds_retSt (do_lc (own := [("_law_cell", 2)]) rfl nd (di_list (de_var (pv 0))) (blkOk_by (own := [("_law_cell", 2)]) (by kernel_rfl)) (fun _ => (dg_name (i := 2) nd rfl (by first | exact Or.inl rfl | exact Or.inr rfl))) (fun _ => dts_nil) (fun _ => (de_abs rfl T.no_abs (da_cons (de_var (pv 2)) da_nil))) (by decide)) (de_add (de_var (pv 1)) de_int)))))) hsp
abbrev t__law_pick (sp__law_draw : SpD RD) : TSd RD := (sRet (eOp dIx (eVar 1) (eCall sp__law_draw (aCons (eVar 0) (aCons (eCl dLen (aCons (eVar 1) aNil)) aNil)))))
theorem sc__law_pick : FnScope ["_law_state_here", "_law_row"] ["_law_state_here", "_law_row"] (defScope s__law_pick) := ⟨rfl, rfl, rfl, by decide +kernel, rfl, by decide +kernel, by decide +kernel⟩
theorem dv__law_pick (T : Txt K mg) {sp__law_draw : SpD RD} (D__law_draw : DefOk P w K mg base RD 1 "_law_draw" ["_law_state_here", "_law_many"] sp__law_draw) {sp : SpD RD} (hsp : ∀ ds m Q Z, ds.length = 2 → sp ds m Q Z → t__law_pick sp__law_draw { nx := fun _ m => Q .non m, rt := Q, rz := fun x _ m => Z x m } (startE 2 ds) m) :
    DefOk P w K mg base RD 2 "_law_pick" ["_law_state_here", "_law_row"] sp := by
  have nd := (sc__law_pick).nd
  exact DefOk.mk' (k := 1) (t := t__law_pick sp__law_draw) T.f__law_pick sc__law_pick (fun _ _ _ _ _ _ us hl => match us, hl with | [_, _], _ => rfl) (fun f cdv A outer s H E hr hG tk =>
    (dss_one (ds_ret (de_at (de_var (pv 1)) (de_call D__law_draw (hr.mono (by decide)) hG rfl tk (da_cons (de_var (pv 0)) (da_cons (de_len rfl T.no_len (da_cons (de_var (pv 1)) da_nil)) da_nil))))))) hsp
abbrev t__law_rows (sp__law_draw : SpD RD) (sp__law_pick : SpD RD) : TSd RD := (sSeq (sSet 4 (eFz (eLc (iRange1 (aCons (eOp dAdd (eC (.int 1)) (eCall sp__law_draw (aCons (eVar 0) (aCons (eOp dAdd (eVar 1) (eC (.int 1))) aNil)))) aNil)) (tName 5) bYes (eFz (eLc (iRange1 (aCons (eVar 2) aNil)) (tName 6) bYes (eCall sp__law_draw (aCons (eVar 0) (aCons (eVar 3) aNil))) [6])) [5])))
    (sRet (eFz (eLc (iRange1 (aCons (eVar 1) aNil)) (tName 6) bYes (eFz (eClO dListO (aCons (eCall sp__law_pick (aCons (eVar 0) (aCons (eVar 4) aNil))) aNil))) [6]))))
theorem sc__law_rows : FnScope ["_law_state_here", "_law_many", "_law_width", "_law_p", "_law_pool", "_law_j", "_law_k"] ["_law_state_here", "_law_many", "_law_width", "_law_p"] (defScope s__law_rows) := ⟨rfl, rfl, rfl, by decide +kernel, rfl, by decide +kernel, by decide +kernel⟩
theorem dv__law_rows (T : Txt K mg) {sp__law_draw : SpD RD} (D__law_draw : DefOk P w K mg base RD 1 "_law_draw" ["_law_state_here", "_law_many"] sp__law_draw) {sp__law_pick : SpD RD} (D__law_pick : DefOk P w K mg base RD 2 "_law_pick" ["_law_state_here", "_law_row"] sp__law_pick) {sp : SpD RD} (hsp : ∀ ds m Q Z, ds.length = 4 → sp ds m Q Z → t__law_rows sp__law_draw sp__law_pick { nx := fun _ m => Q .non m, rt := Q, rz := fun x _ m => Z x m } (startE 7 ds) m) :
    DefOk P w K mg base RD 3 "_law_rows" ["_law_state_here", "_law_many", "_law_width", "_law_p"] sp := by
  have nd := (sc__law_rows).nd
  exact DefOk.mk' (k := 2) (t := t__law_rows sp__law_draw sp__law_pick) T.f__law_rows sc__law_rows (fun _ _ _ _ _ _ us hl => match us, hl with | [_, _, _, _], _ => rfl) (fun f cdv A outer s H E hr hG tk =>
    (dss_cons (ds_set (i := 4) nd rfl (Or.inr rfl) (DO.fz (do_lc (own := [("_law_j", 5)]) rfl nd (di_range1 rfl T.no_range (da_cons (de_add de_int (de_call D__law_draw (hr.mono (by decide)) hG rfl tk (da_cons (de_var (pv 0)) (da_cons (de_add (de_var (pv 1)) de_int) da_nil)))) da_nil)) (blkOk_by (own := [("_law_j", 5)]) (by kernel_rfl)) (fun _ => (dg_name (i := 5) nd rfl (by first | exact Or.inl rfl | exact Or.inr rfl))) (fun _ => dts_nil) (fun _ => (DO.fz (do_lc (own := [("_law_k", 6)]) rfl nd (di_range1 rfl T.no_range (da_cons (de_var (pv 2)) da_nil)) (blkOk_by (own := [("_law_k", 6)]) (by kernel_rfl)) (fun _ => (dg_name (i := 6) nd rfl (by first | exact Or.inl rfl | exact Or.inr rfl))) (fun _ => dts_nil) (fun _ => (de_call D__law_draw (hr.mono (by decide)) hG rfl takes0 (da_cons (de_var (pv 0)) (da_cons (de_var (pv 3)) da_nil)))) (by decide)))) (by decide))))
    (dss_one (ds_ret (DO.fz (do_lc (own := [("_law_k", 6)]) rfl nd (di_range1 rfl T.no_range (da_cons (de_var (pv 1)) da_nil)) (blkOk_by (own := [("_law_k", 6)]) (by kernel_rfl)) (fun _ => (dg_name (i := 6) nd rfl (by first | exact Or.inl rfl | exact Or.inr rfl))) (fun _ => dts_nil) (fun _ => (DO.fz (do_list rfl T.no_list (da_cons (de_call D__law_pick (hr.mono (by decide)) hG rfl takes0 (da_cons (de_var (pv 0)) (da_cons (de_var (pv 4)) da_nil))) da_nil)))) (by decide))))))) hsp
abbrev b1__law_mark : TSd RD := (sSeq (sSet 3 (eOp dMod (eCl dToInt (aCons (eOp dAdd (eVar 3) (eOp dMul (eVar 5) (eVar 4))) aNil)) (eVar 2)))
    (sSet 4 (eOp dMod (eCl dToInt (aCons (eOp dMul (eVar 4) (eVar 1)) aNil)) (eVar 2))))
abbrev t__law_mark : TSd RD := (sSeq (sSet 3 (eC (.int 0)))
    (sSeq (sSet 4 (eC (.int 1)))
    (sSeq (sFor (iLst (eVar 0)) (tName 5) (b1__law_mark))
    (sRet (eVar 3)))))
theorem sc__law_mark : FnScope ["_law_row", "_law_s", "_law_p", "_law_total", "_law_factor", "_law_number"] ["_law_row", "_law_s", "_law_p"] (defScope s__law_mark) := ⟨rfl, rfl, rfl, by decide +kernel, rfl, by decide +kernel, by decide +kernel⟩
theorem dv__law_mark (T : Txt K mg) {sp : SpD RD} (hsp : ∀ ds m Q Z, ds.length = 3 → sp ds m Q Z → t__law_mark { nx := fun _ m => Q .non m, rt := Q, rz := fun x _ m => Z x m } (startE 6 ds) m) :
    DefOk P w K mg base RD 1 "_law_mark" ["_law_row", "_law_s", "_law_p"] sp := by
  have nd := (sc__law_mark).nd
  exact DefOk.mk' (k := 0) (t := t__law_mark) T.f__law_mark sc__law_mark (fun _ _ _ _ _ _ us hl => match us, hl with | [_, _, _], _ => rfl) (fun f cdv A outer s H E hr hG tk =>
    (dss_cons (ds_set (i := 3) nd rfl (Or.inl rfl) de_int)
    (dss_cons (ds_set (i := 4) nd rfl (Or.inl rfl) de_int)
    (dss_cons (ds_for (passes_of rfl) rfl (di_list (de_var (pv 0))) (dg_name (i := 5) nd rfl (by first | exact Or.inl rfl | exact Or.inr rfl)) (dss_cons (ds_set (i := 3) nd rfl (Or.inl rfl) (de_mod (de_toInt rfl T.no_int (da_cons (de_add (de_var (pv 3)) (de_mul (de_var (pv 5)) (de_var (pv 4)))) da_nil)) (de_var (pv 2))))
    (dss_one (ds_set (i := 4) nd rfl (Or.inl rfl) (de_mod (de_toInt rfl T.no_int (da_cons (de_mul (de_var (pv 4)) (de_var (pv 1))) da_nil)) (de_var (pv 2)))))))
    (dss_one (ds_ret (de_var (pv 3)))))))) hsp
abbrev b1__law_product (sp__law_mark : SpD RD) : TSd RD := (sSet 4 (eOp dMod (eCl dToInt (aCons (eOp dMul (eVar 4) (eOp dSub (eVar 2) (eCall sp__law_mark (aCons (eVar 5) (aCons (eVar 1) (aCons (eVar 3) aNil)))))) aNil)) (eVar 3)))
abbrev t__law_product (sp__law_mark : SpD RD) : TSd RD := (sSeq (sSet 4 (eC (.int 1)))
    (sSeq (sFor (iLst (eVar 0)) (tName 5) (b1__law_product sp__law_mark))
    (sRet (eOp dMod (eCl dToInt (aCons (eVar 4) aNil)) (eVar 3)))))
theorem sc__law_product : FnScope ["_law_rows_here", "_law_s", "_law_t", "_law_p", "_law_result", "_law_row"] ["_law_rows_here", "_law_s", "_law_t", "_law_p"] (defScope s__law_product) := ⟨rfl, rfl, rfl, by decide +kernel, rfl, by decide +kernel, by decide +kernel⟩
theorem dv__law_product (T : Txt K mg) {sp__law_mark : SpD RD} (D__law_mark : DefOk P w K mg base RD 1 "_law_mark" ["_law_row", "_law_s", "_law_p"] sp__law_mark) {sp : SpD RD} (hsp : ∀ ds m Q Z, ds.length = 4 → sp ds m Q Z → t__law_product sp__law_mark { nx := fun _ m => Q .non m, rt := Q, rz := fun x _ m => Z x m } (startE 6 ds) m) :
    DefOk P w K mg base RD 2 "_law_product" ["_law_rows_here", "_law_s", "_law_t", "_law_p"] sp := by
  have nd := (sc__law_product).nd
  exact DefOk.mk' (k := 1) (t := t__law_product sp__law_mark) T.f__law_product sc__law_product (fun _ _ _ _ _ _ us hl => match us, hl with | [_, _, _, _], _ => rfl) (fun f cdv A outer s H E hr hG tk =>
    (dss_cons (ds_set (i := 4) nd rfl (Or.inl rfl) de_int)
    (dss_cons (ds_for (passes_of rfl) rfl (di_list (de_var (pv 0))) (dg_name (i := 5) nd rfl (by first | exact Or.inl rfl | exact Or.inr rfl)) (dss_one (ds_set (i := 4) nd rfl (Or.inl rfl) (de_mod (de_toInt rfl T.no_int (da_cons (de_mul (de_var (pv 4)) (de_sub (de_var (pv 2)) (de_call D__law_mark (hr.mono (by decide)) hG rfl tk (da_cons (de_var (pv 5)) (da_cons (de_var (pv 1)) (da_cons (de_var (pv 3)) da_nil)))))) da_nil)) (de_var (pv 3))))))
    (dss_one (ds_ret (de_mod (de_toInt rfl T.no_int (da_cons (de_var (pv 4)) da_nil)) (de_var (pv 3)))))))) hsp
abbrev b1__law_turned (sp__law_draw : SpD RD) : TSd RD := (sDrop (eOwnM 3 (aCons (eOwnM 2 (aCons (eCall sp__law_draw (aCons (eVar 0) (aCons (eCl dLen (aCons (eVar 2) aNil)) aNil))) aNil) fPopAt) aNil) fAppend))
abbrev t__law_turned (sp__law_draw : SpD RD) : TSd RD := (sSeq (sOwn 2 (eClO dListO (aCons (eVar 1) aNil)))
    (sSeq (sOwn 3 (eLst aNil))
    (sSeq (sWhile (bOf (eOp dGt (eCl dLen (aCons (eVar 2) aNil)) (eC (.int 0)))) (b1__law_turned sp__law_draw))
    (sRet (eIce 3)))))
theorem sc__law_turned : FnScope ["_law_state_here", "_law_rows_here", "_law_left", "_law_found"] ["_law_state_here", "_law_rows_here"] (defScope s__law_turned) := ⟨rfl, rfl, rfl, by decide +kernel, rfl, by decide +kernel, by decide +kernel⟩
theorem dv__law_turned (T : Txt K mg) {sp__law_draw : SpD RD} (D__law_draw : DefOk P w K mg base RD 1 "_law_draw" ["_law_state_here", "_law_many"] sp__law_draw) {sp : SpD RD} (hsp : ∀ ds m Q Z, ds.length = 2 → sp ds m Q Z → t__law_turned sp__law_draw { nx := fun _ m => Q .non m, rt := Q, rz := fun x _ m => Z x m } (startE 4 ds) m) :
    DefOk P w K mg base RD 2 "_law_turned" ["_law_state_here", "_law_rows_here"] sp := by
  have nd := (sc__law_turned).nd
  exact DefOk.mk' (k := 1) (t := t__law_turned sp__law_draw) T.f__law_turned sc__law_turned (fun _ _ _ _ _ _ us hl => match us, hl with | [_, _], _ => rfl) (fun f cdv A outer s H E hr hG tk =>
    (dss_cons (ds_own (i := 2) nd rfl (Or.inl rfl) (do_list rfl T.no_list (da_cons (de_var (pv 1)) da_nil)))
    (dss_cons (ds_own (i := 3) nd rfl (Or.inl rfl) (do_lst da_nil))
    (dss_cons (ds_while (passes_of rfl) (dt_gt (de_len rfl T.no_len (da_cons (de_var (pv 2)) da_nil)) de_int) (dss_one (ds_expr (de_append (pv 3) (da_cons (de_popAt (pv 2) (da_cons (de_call D__law_draw (hr.mono (by decide)) hG rfl tk (da_cons (de_var (pv 0)) (da_cons (de_len rfl T.no_len (da_cons (de_var (pv 2)) da_nil)) da_nil))) da_nil)) da_nil)))))
    (dss_one (ds_ret (de_ice (pv 3)))))))) hsp
abbrev t__law_times : TSd RD := (sRet (eCl dLen (aCons (eFz (eLc (iLst (eVar 0)) (tName 2) (bOf (eOp dEq (eVar 2) (eVar 1))) (eVar 2) [2])) aNil)))
theorem sc__law_times : FnScope ["_law_rows_here", "_law_row", "_law_other_here"] ["_law_rows_here", "_law_row"] (defScope s__law_times) := ⟨rfl, rfl, rfl, by decide +kernel, rfl, by decide +kernel, by decide +kernel⟩
theorem dv__law_times (T : Txt K mg) {sp : SpD RD} (hsp : ∀ ds m Q Z, ds.length = 2 → sp ds m Q Z → t__law_times { nx := fun _ m => Q .non m, rt := Q, rz := fun x _ m => Z x m } (startE 3 ds) m) :
    DefOk P w K mg base RD 1 "_law_times" ["_law_rows_here", "_law_row"] sp := by
  have nd := (sc__law_times).nd
  exact DefOk.mk' (k := 0) (t := t__law_times) T.f__law_times sc__law_times (fun _ _ _ _ _ _ us hl => match us, hl with | [_, _], _ => rfl) (fun f cdv A outer s H E hr hG tk =>
    (dss_one (ds_ret (de_len rfl T.no_len (da_cons (DO.fz (do_lc (own := [("_law_other_here", 2)]) rfl nd (di_list (de_var (pv 0))) (blkOk_by (own := [("_law_other_here", 2)]) (by kernel_rfl)) (fun _ => (dg_name (i := 2) nd rfl (by first | exact Or.inl rfl | exact Or.inr rfl))) (fun _ => (dts_one (dt_eq hr.units (de_var (pv 2)) (de_var (pv 1))))) (fun _ => (de_var (pv 2))) (by decide))) da_nil))))) hsp
abbrev t__law_other (sp__law_draw : SpD RD) (sp__law_turned : SpD RD) : TSd RD := (sSeq (sSet 4 (eCall sp__law_draw (aCons (eVar 0) (aCons (eC (.int 4)) aNil))))
    (sSeq (sOwn 5 (eLc (iLst (eCall sp__law_turned (aCons (eVar 0) (aCons (eVar 1) aNil)))) (tName 7) bYes (eNew (eClO dListO (aCons (eVar 7) aNil))) [7]))
    (sSeq (sSet 6 (eCall sp__law_draw (aCons (eVar 0) (aCons (eCl dLen (aCons (eVar 5) aNil)) aNil))))
    (sSeq (sSet 7 (eOp dIx (eVar 5) (eVar 6)))
    (sSeq (sIf (bOf (eOp dEq (eVar 4) (eC (.int 0)))) (sPutC (eVar 7) (eCall sp__law_draw (aCons (eVar 0) (aCons (eVar 2) aNil))) (eCall sp__law_draw (aCons (eVar 0) (aCons (eVar 3) aNil)))) (sIf (bOf (eOp dEq (eVar 4) (eC (.int 1)))) (sPut 5 (eVar 6) (eFz (eLc (iRange1 (aCons (eVar 2) aNil)) (tName 8) bYes (eCall sp__law_draw (aCons (eVar 0) (aCons (eVar 3) aNil))) [8]))) (sIf (bOf (eOp dEq (eVar 4) (eC (.int 2)))) (sPut 5 (eVar 6) (eFz (eClO dListO (aCons (eOp dIx (eVar 5) (eCall sp__law_draw (aCons (eVar 0) (aCons (eCl dLen (aCons (eVar 5) aNil)) aNil)))) aNil)))) (sOwn 5 (eLc (iLst (eVar 1)) (tName 7) bYes (eNew (eLc (iRange1 (aCons (eVar 2) aNil)) (tName 8) bYes (eCall sp__law_draw (aCons (eVar 0) (aCons (eVar 3) aNil))) [8])) [7])))))
    (sRet (eRes (eIce 5))))))))
theorem sc__law_other : FnScope ["_law_state_here", "_law_rows_here", "_law_width", "_law_p", "_law_kind", "_law_other_here", "_law_k", "_law_row", "_law_j"] ["_law_state_here", "_law_rows_here", "_law_width", "_law_p"] (defScope s__law_other) := ⟨rfl, rfl, rfl, by decide +kernel, rfl, by decide +kernel, by decide +kernel⟩
theorem dv__law_other (T : Txt K mg) {sp__law_draw : SpD RD} (D__law_draw : DefOk P w K mg base RD 1 "_law_draw" ["_law_state_here", "_law_many"] sp__law_draw) {sp__law_turned : SpD RD} (D__law_turned : DefOk P w K mg base RD 2 "_law_turned" ["_law_state_here", "_law_rows_here"] sp__law_turned) {sp : SpD RD} (hsp : ∀ ds m Q Z, ds.length = 4 → sp ds m Q Z → t__law_other sp__law_draw sp__law_turned { nx := fun _ m => Q .non m, rt := Q, rz := fun x _ m => Z x m } (startE 9 ds) m) :
    DefOk P w K mg base RD 3 "_law_other" ["_law_state_here", "_law_rows_here", "_law_width", "_law_p"] sp := by
  have nd := (sc__law_other).nd
  exact DefOk.mk' (k := 2) (t := t__law_other sp__law_draw sp__law_turned) T.f__law_other sc__law_other (fun _ _ _ _ _ _ us hl => match us, hl with | [_, _, _, _], _ => rfl) (fun f cdv A outer s H E hr hG tk =>
    (dss_cons (ds_set (i := 4) nd rfl (Or.inl rfl) (de_call D__law_draw (hr.mono (by decide)) hG rfl tk (da_cons (de_var (pv 0)) (da_cons de_int da_nil))))
    (dss_cons (ds_lcOwn (i := 5) (own := [("_law_row", 7)]) rfl nd rfl rfl (sw_true rfl rfl rfl (by kernel_rfl)) (di_list (de_call D__law_turned (hr.mono (by decide)) hG rfl tk (da_cons (de_var (pv 0)) (da_cons (de_var (pv 1)) da_nil)))) (blkOk_by (own := [("_law_row", 7)]) (by kernel_rfl)) (fun _ => (dg_name (i := 7) nd rfl (by first | exact Or.inl rfl | exact Or.inr rfl))) (fun _ => dts_nil) (fun _ => (DO.cell (do_list rfl T.no_list (da_cons (de_var (pv 7)) da_nil)))) (by decide))
    (dss_cons (ds_set (i := 6) nd rfl (Or.inl rfl) (de_call D__law_draw (hr.mono (by decide)) hG rfl tk (da_cons (de_var (pv 0)) (da_cons (de_len rfl T.no_len (da_cons (de_var (pv 5)) da_nil)) da_nil))))
    (dss_cons (ds_set (i := 7) nd rfl (Or.inl rfl) (de_at (de_var (pv 5)) (de_var (pv 6))))
    (dss_cons (ds_if (dt_eq hr.units (de_var (pv 4)) de_int) (dss_one (ds_putC (de_var (pv 7)) (de_call D__law_draw (hr.mono (by decide)) hG rfl tk (da_cons (de_var (pv 0)) (da_cons (de_var (pv 2)) da_nil))) (de_call D__law_draw (hr.mono (by decide)) hG rfl tk (da_cons (de_var (pv 0)) (da_cons (de_var (pv 3)) da_nil))))) (dss_one (ds_if (dt_eq hr.units (de_var (pv 4)) de_int) (dss_one (ds_put (pv 5) (de_var (pv 6)) (DO.fz (do_lc (own := [("_law_j", 8)]) rfl nd (di_range1 rfl T.no_range (da_cons (de_var (pv 2)) da_nil)) (blkOk_by (own := [("_law_j", 8)]) (by kernel_rfl)) (fun _ => (dg_name (i := 8) nd rfl (by first | exact Or.inl rfl | exact Or.inr rfl))) (fun _ => dts_nil) (fun _ => (de_call D__law_draw (hr.mono (by decide)) hG rfl takes0 (da_cons (de_var (pv 0)) (da_cons (de_var (pv 3)) da_nil)))) (by decide))))) (dss_one (ds_if (dt_eq hr.units (de_var (pv 4)) de_int) (dss_one (ds_put (pv 5) (de_var (pv 6)) (DO.fz (do_list rfl T.no_list (da_cons (de_at (de_var (pv 5)) (de_call D__law_draw (hr.mono (by decide)) hG rfl tk (da_cons (de_var (pv 0)) (da_cons (de_len rfl T.no_len (da_cons (de_var (pv 5)) da_nil)) da_nil)))) da_nil))))) (dss_one (ds_lcOwn (i := 5) (own := [("_law_row", 7)]) rfl nd rfl rfl (sw_true rfl rfl rfl (by kernel_rfl)) (di_list (de_var (pv 1))) (blkOk_by (own := [("_law_row", 7)]) (by kernel_rfl)) (fun _ => (dg_name (i := 7) nd rfl (by first | exact Or.inl rfl | exact Or.inr rfl))) (fun _ => dts_nil) (fun _ => (DO.cell (do_lc (own := [("_law_j", 8)]) rfl nd (di_range1 rfl T.no_range (da_cons (de_var (pv 2)) da_nil)) (blkOk_by (own := [("_law_j", 8)]) (by kernel_rfl)) (fun _ => (dg_name (i := 8) nd rfl (by first | exact Or.inl rfl | exact Or.inr rfl))) (fun _ => dts_nil) (fun _ => (de_call D__law_draw (hr.mono (by decide)) hG rfl takes0 (da_cons (de_var (pv 0)) (da_cons (de_var (pv 3)) da_nil)))) (by decide)))) (by decide))))))))
    (dss_one (ds_ret (de_res (de_ice (pv 5))))))))))) hsp
abbrev b1__law_due (sp__law_product : SpD RD) (sp__law_mark : SpD RD) (sp__law_times : SpD RD) : TSd RD := (sIf (bOf (eOp dGt (eCall sp__law_times (aCons (eVar 0) (aCons (eVar 5) aNil))) (eCall sp__law_times (aCons (eVar 1) (aCons (eVar 5) aNil))))) (sSeq (sSet 6 (eFz (eLc (iLst (eVar 1)) (tName 7) (bAnd (bOf (eOp dNe (eVar 7) (eVar 5))) (bOf (eOp dEq (eCall sp__law_mark (aCons (eVar 7) (aCons (eVar 2) (aCons (eVar 4) aNil)))) (eCall sp__law_mark (aCons (eVar 5) (aCons (eVar 2) (aCons (eVar 4) aNil))))))) (eVar 7) [7])))
    (sIf (bOf (eOp dGt (eCl dLen (aCons (eVar 6) aNil)) (eC (.int 0)))) (sRet (eTup (aCons (eC (.str "rows")) (aCons (eVar 5) (aCons (eOp dIx (eVar 6) (eC (.int 0))) aNil))))) sNext)) sNext)
abbrev t__law_due (sp__law_product : SpD RD) (sp__law_mark : SpD RD) (sp__law_times : SpD RD) : TSd RD := (sSeq (sIf (bOr (bOf (eOp dEq (eFz (eClO dSorted (aCons (eVar 0) aNil))) (eFz (eClO dSorted (aCons (eVar 1) aNil))))) (bOf (eOp dNe (eCall sp__law_product (aCons (eVar 0) (aCons (eVar 2) (aCons (eVar 3) (aCons (eVar 4) aNil))))) (eCall sp__law_product (aCons (eVar 1) (aCons (eVar 2) (aCons (eVar 3) (aCons (eVar 4) aNil)))))))) (sRet (eC .non)) sNext)
    (sSeq (sIf (bOf (eOp dNe (eFz (eClO dSorted (aCons (eFz (eLc (iLst (eVar 0)) (tName 5) bYes (eCall sp__law_mark (aCons (eVar 5) (aCons (eVar 2) (aCons (eVar 4) aNil)))) [5])) aNil))) (eFz (eClO dSorted (aCons (eFz (eLc (iLst (eVar 1)) (tName 5) bYes (eCall sp__law_mark (aCons (eVar 5) (aCons (eVar 2) (aCons (eVar 4) aNil)))) [5])) aNil))))) (sRet (eTup (aCons (eC (.str "point")) (aCons (eVar 3) aNil)))) sNext)
    (sSeq (sFor (iLst (eVar 0)) (tName 5) (b1__law_due sp__law_product sp__law_mark sp__law_times))
    (sRet (eTup (aCons (eC (.str "none")) aNil))))))
theorem sc__law_due : FnScope ["_law_rows_here", "_law_others", "_law_s", "_law_t", "_law_p", "_law_row", "_law_found", "_law_one"] ["_law_rows_here", "_law_others", "_law_s", "_law_t", "_law_p"] (defScope s__law_due) := ⟨rfl, rfl, rfl, by decide +kernel, rfl, by decide +kernel, by decide +kernel⟩
theorem dv__law_due (T : Txt K mg) {sp__law_product : SpD RD} (D__law_product : DefOk P w K mg base RD 2 "_law_product" ["_law_rows_here", "_law_s", "_law_t", "_law_p"] sp__law_product) {sp__law_mark : SpD RD} (D__law_mark : DefOk P w K mg base RD 1 "_law_mark" ["_law_row", "_law_s", "_law_p"] sp__law_mark) {sp__law_times : SpD RD} (D__law_times : DefOk P w K mg base RD 1 "_law_times" ["_law_rows_here", "_law_row"] sp__law_times) {sp : SpD RD} (hsp : ∀ ds m Q Z, ds.length = 5 → sp ds m Q Z → t__law_due sp__law_product sp__law_mark sp__law_times { nx := fun _ m => Q .non m, rt := Q, rz := fun x _ m => Z x m } (startE 8 ds) m) :
    DefOk P w K mg base RD 3 "_law_due" ["_law_rows_here", "_law_others", "_law_s", "_law_t", "_law_p"] sp := by
  have nd := (sc__law_due).nd
  exact DefOk.mk' (k := 2) (t := t__law_due sp__law_product sp__law_mark sp__law_times) T.f__law_due sc__law_due (fun _ _ _ _ _ _ us hl => match us, hl with | [_, _, _, _, _], _ => rfl) (fun f cdv A outer s H E hr hG tk =>
    (dss_cons (ds_if (DW.pt (dw_or (dt_eq hr.units (DO.fz (do_sorted hr.units rfl T.no_sorted (da_cons (de_var (pv 0)) da_nil))) (DO.fz (do_sorted hr.units rfl T.no_sorted (da_cons (de_var (pv 1)) da_nil)))) (dw_or1 (dt_ne hr.units (de_call D__law_product (hr.mono (by decide)) hG rfl tk (da_cons (de_var (pv 0)) (da_cons (de_var (pv 2)) (da_cons (de_var (pv 3)) (da_cons (de_var (pv 4)) da_nil))))) (de_call D__law_product (hr.mono (by decide)) hG rfl tk (da_cons (de_var (pv 1)) (da_cons (de_var (pv 2)) (da_cons (de_var (pv 3)) (da_cons (de_var (pv 4)) da_nil))))))))) (dss_one (ds_ret de_non)) dss_nil)
    (dss_cons (ds_if (dt_ne hr.units (DO.fz (do_sorted hr.units rfl T.no_sorted (da_cons (DO.fz (do_lc (own := [("_law_row", 5)]) rfl nd (di_list (de_var (pv 0))) (blkOk_by (own := [("_law_row", 5)]) (by kernel_rfl)) (fun _ => (dg_name (i := 5) nd rfl (by first | exact Or.inl rfl | exact Or.inr rfl))) (fun _ => dts_nil) (fun _ => (de_call D__law_mark (hr.mono (by decide)) hG rfl takes0 (da_cons (de_var (pv 5)) (da_cons (de_var (pv 2)) (da_cons (de_var (pv 4)) da_nil))))) (by decide))) da_nil))) (DO.fz (do_sorted hr.units rfl T.no_sorted (da_cons (DO.fz (do_lc (own := [("_law_row", 5)]) rfl nd (di_list (de_var (pv 1))) (blkOk_by (own := [("_law_row", 5)]) (by kernel_rfl)) (fun _ => (dg_name (i := 5) nd rfl (by first | exact Or.inl rfl | exact Or.inr rfl))) (fun _ => dts_nil) (fun _ => (de_call D__law_mark (hr.mono (by decide)) hG rfl takes0 (da_cons (de_var (pv 5)) (da_cons (de_var (pv 2)) (da_cons (de_var (pv 4)) da_nil))))) (by decide))) da_nil)))) (dss_one (ds_ret (de_tup (da_cons de_str (da_cons (de_var (pv 3)) da_nil))))) dss_nil)
    (dss_cons (ds_for (passes_of rfl) rfl (di_list (de_var (pv 0))) (dg_name (i := 5) nd rfl (by first | exact Or.inl rfl | exact Or.inr rfl)) (dss_one (ds_if (dt_gt (de_call D__law_times (hr.mono (by decide)) hG rfl tk (da_cons (de_var (pv 0)) (da_cons (de_var (pv 5)) da_nil))) (de_call D__law_times (hr.mono (by decide)) hG rfl tk (da_cons (de_var (pv 1)) (da_cons (de_var (pv 5)) da_nil)))) (dss_cons (ds_lcDat (i := 6) (own := [("_law_one", 7)]) rfl nd rfl rfl (sw_true rfl rfl rfl (by kernel_rfl)) (di_list (de_var (pv 1))) (blkOk_by (own := [("_law_one", 7)]) (by kernel_rfl)) (fun _ => (dg_name (i := 7) nd rfl (by first | exact Or.inl rfl | exact Or.inr rfl))) (fun _ => (dts_one (DW.pt (dw_and (dt_ne hr.units (de_var (pv 7)) (de_var (pv 5))) (dw_and1 (dt_eq hr.units (de_call D__law_mark (hr.mono (by decide)) hG rfl takes0 (da_cons (de_var (pv 7)) (da_cons (de_var (pv 2)) (da_cons (de_var (pv 4)) da_nil)))) (de_call D__law_mark (hr.mono (by decide)) hG rfl takes0 (da_cons (de_var (pv 5)) (da_cons (de_var (pv 2)) (da_cons (de_var (pv 4)) da_nil)))))))))) (fun _ => (de_var (pv 7))) (by decide))
    (dss_one (ds_if (dt_gt (de_len rfl T.no_len (da_cons (de_var (pv 6)) da_nil)) de_int) (dss_one (ds_ret (de_tup (da_cons de_str (da_cons (de_var (pv 5)) (da_cons (de_at (de_var (pv 6)) de_int) da_nil)))))) dss_nil))) dss_nil)))
    (dss_one (ds_ret (de_tup (da_cons de_str da_nil)))))))) hsp
abbrev b1_law (sp__law_state : SpD RD) (sp__law_pick : SpD RD) (sp__law_draw : SpD RD) (sp__law_rows : SpD RD) (sp__law_other : SpD RD) (sp_same_bag : SpD RD) (sp__law_due : SpD RD) (sp_bag_blame : SpD RD) (sp_most_same : SpD RD) : TSd RD := (sSeq (sSet 10 (eCall sp_same_bag (aCons (eVar 4) (aCons (eVar 5) (aCons (eVar 7) (aCons (eVar 9) (aCons (eVar 2) aNil)))))))
    (sSeq (sSet 11 (eCall sp__law_due (aCons (eVar 4) (aCons (eVar 5) (aCons (eVar 7) (aCons (eVar 9) (aCons (eVar 2) aNil)))))))
    (sSeq (sIf (bOr (bOf (eOp dNe (eCall sp_bag_blame (aCons (eVar 4) (aCons (eVar 5) (aCons (eVar 7) (aCons (eVar 9) (aCons (eVar 2) aNil)))))) (eVar 11))) (bOf (eOp dEq (eVar 11) (eTup (aCons (eC (.str "none")) aNil))))) (sRet (eC (.bl false))) sNext)
    (sIf (bOf (eOp dEq (eFz (eClO dSorted (aCons (eVar 4) aNil))) (eFz (eClO dSorted (aCons (eVar 5) aNil))))) (sIf (bOf (eOp dIsNot (eVar 10) (eC (.bl true)))) (sRet (eC (.bl false))) sNext) (sIf (bOf (eOp dNe (eVar 10) (eOp dIsNot (eVar 11) (eC .non)))) (sRet (eC (.bl false))) (sSet 6 (eOp dAdd (eVar 6) (eCl dToInt (aCons (eVar 10) aNil)))))))))
abbrev b2_law (sp__law_state : SpD RD) (sp__law_pick : SpD RD) (sp__law_draw : SpD RD) (sp__law_rows : SpD RD) (sp__law_other : SpD RD) (sp_same_bag : SpD RD) (sp__law_due : SpD RD) (sp_bag_blame : SpD RD) (sp_most_same : SpD RD) : TSd RD := (sFor (iRange1 (aCons (eVar 2) aNil)) (tName 9) (b1_law sp__law_state sp__law_pick sp__law_draw sp__law_rows sp__law_other sp_same_bag sp__law_due sp_bag_blame sp_most_same))
abbrev t_law (sp__law_state : SpD RD) (sp__law_pick : SpD RD) (sp__law_draw : SpD RD) (sp__law_rows : SpD RD) (sp__law_other : SpD RD) (sp_same_bag : SpD RD) (sp__law_due : SpD RD) (sp_bag_blame : SpD RD) (sp_most_same : SpD RD) : TSd RD := (sSeq (sSet 1 (eCall sp__law_state (aCons (eVar 0) aNil)))
    (sSeq (sSet 2 (eCall sp__law_pick (aCons (eVar 1) (aCons (eFz (eLst (aCons (eC (.int 2)) (aCons (eC (.int 3)) (aCons (eC (.int 5)) (aCons (eC (.int 7)) (aCons (eC (.int 11)) (aCons (eC (.int 13)) aNil)))))))) aNil))))
    (sSeq (sSet 3 (eOp dAdd (eC (.int 1)) (eCall sp__law_draw (aCons (eVar 1) (aCons (eC (.int 3)) aNil)))))
    (sSeq (sSet 4 (eCall sp__law_rows (aCons (eVar 1) (aCons (eOp dAdd (eC (.int 1)) (eCall sp__law_draw (aCons (eVar 1) (aCons (eC (.int 6)) aNil)))) (aCons (eVar 3) (aCons (eVar 2) aNil))))))
    (sSeq (sSet 5 (eCall sp__law_other (aCons (eVar 1) (aCons (eVar 4) (aCons (eVar 3) (aCons (eVar 2) aNil))))))
    (sSeq (sSet 6 (eC (.int 0)))
    (sSeq (sFor (iRange1 (aCons (eVar 2) aNil)) (tName 7) (b2_law sp__law_state sp__law_pick sp__law_draw sp__law_rows sp__law_other sp_same_bag sp__law_due sp_bag_blame sp_most_same))
    (sSeq (sSet 8 (eCall sp_most_same (aCons (eCl dLen (aCons (eVar 4) aNil)) (aCons (eVar 3) (aCons (eVar 2) aNil)))))
    (sRet (eAnd (eOp dEq (eVar 8) (eCl dMin2 (aCons (eOp dMul (eVar 2) (eVar 2)) (aCons (eOp dMul (eOp dMul (eVar 2) (eCl dLen (aCons (eVar 4) aNil))) (eVar 3)) aNil)))) (eOp dLeU (eVar 6) (eVar 8))))))))))))
theorem sc_law : FnScope ["_law_script", "_law_state_here", "_law_p", "_law_width", "_law_rows_here", "_law_others", "_law_count", "_law_s", "_law_most", "_law_t", "_law_told", "_law_due_here"] ["_law_script"] (defScope s_law) := ⟨rfl, rfl, rfl, by decide +kernel, rfl, by decide +kernel, by decide +kernel⟩
theorem dv_law (T : Txt K mg) {sp__law_state : SpD RD} (D__law_state : DefOk P w K mg base RD 1 "_law_state" ["_law_script"] sp__law_state) {sp__law_pick : SpD RD} (D__law_pick : DefOk P w K mg base RD 2 "_law_pick" ["_law_state_here", "_law_row"] sp__law_pick) {sp__law_draw : SpD RD} (D__law_draw : DefOk P w K mg base RD 1 "_law_draw" ["_law_state_here", "_law_many"] sp__law_draw) {sp__law_rows : SpD RD} (D__law_rows : DefOk P w K mg base RD 3 "_law_rows" ["_law_state_here", "_law_many", "_law_width", "_law_p"] sp__law_rows) {sp__law_other : SpD RD} (D__law_other : DefOk P w K mg base RD 3 "_law_other" ["_law_state_here", "_law_rows_here", "_law_width", "_law_p"] sp__law_other) {sp_same_bag : SpD RD} (D_same_bag : DefOk P w K mg base RD 3 "same_bag" ["rows", "others", "s", "t", "p"] sp_same_bag) {sp__law_due : SpD RD} (D__law_due : DefOk P w K mg base RD 3 "_law_due" ["_law_rows_here", "_law_others", "_law_s", "_law_t", "_law_p"] sp__law_due) {sp_bag_blame : SpD RD} (D_bag_blame : DefOk P w K mg base RD 4 "bag_blame" ["rows", "others", "s", "t", "p"] sp_bag_blame) {sp_most_same : SpD RD} (D_most_same : DefOk P w K mg base RD 1 "most_same" ["many", "width", "p"] sp_most_same) {sp : SpD RD} (hsp : ∀ ds m Q Z, ds.length = 1 → sp ds m Q Z → t_law sp__law_state sp__law_pick sp__law_draw sp__law_rows sp__law_other sp_same_bag sp__law_due sp_bag_blame sp_most_same { nx := fun _ m => Q .non m, rt := Q, rz := fun x _ m => Z x m } (startE 12 ds) m) :
    DefOk P w K mg base RD 5 "law" ["_law_script"] sp := by
  have nd := (sc_law).nd
  exact DefOk.mk' (k := 4) (t := t_law sp__law_state sp__law_pick sp__law_draw sp__law_rows sp__law_other sp_same_bag sp__law_due sp_bag_blame sp_most_same) T.f_law sc_law (fun _ _ _ _ _ _ us hl => match us, hl with | [_], _ => rfl) (fun f cdv A outer s H E hr hG tk =>
    (dss_cons (ds_set (i := 1) nd rfl (Or.inl rfl) (de_call D__law_state (hr.mono (by decide)) hG rfl tk (da_cons (de_var (pv 0)) da_nil)))
    (dss_cons (ds_set (i := 2) nd rfl (Or.inl rfl) (de_call D__law_pick (hr.mono (by decide)) hG rfl tk (da_cons (de_var (pv 1)) (da_cons (DO.fz (do_lst (da_cons de_int (da_cons de_int (da_cons de_int (da_cons de_int (da_cons de_int (da_cons de_int da_nil)))))))) da_nil))))
    (dss_cons (ds_set (i := 3) nd rfl (Or.inl rfl) (de_add de_int (de_call D__law_draw (hr.mono (by decide)) hG rfl tk (da_cons (de_var (pv 1)) (da_cons de_int da_nil)))))
    (dss_cons (ds_set (i := 4) nd rfl (Or.inl rfl) (de_call D__law_rows (hr.mono (by decide)) hG rfl tk (da_cons (de_var (pv 1)) (da_cons (de_add de_int (de_call D__law_draw (hr.mono (by decide)) hG rfl tk (da_cons (de_var (pv 1)) (da_cons de_int da_nil)))) (da_cons (de_var (pv 3)) (da_cons (de_var (pv 2)) da_nil))))))
    (dss_cons (ds_set (i := 5) nd rfl (Or.inl rfl) (de_call D__law_other (hr.mono (by decide)) hG rfl tk (da_cons (de_var (pv 1)) (da_cons (de_var (pv 4)) (da_cons (de_var (pv 3)) (da_cons (de_var (pv 2)) da_nil))))))
    (dss_cons (ds_set (i := 6) nd rfl (Or.inl rfl) de_int)
    (dss_cons (ds_for (passes_of rfl) rfl (di_range1 rfl T.no_range (da_cons (de_var (pv 2)) da_nil)) (dg_name (i := 7) nd rfl (by first | exact Or.inl rfl | exact Or.inr rfl)) (dss_one (ds_for (passes_of rfl) rfl (di_range1 rfl T.no_range (da_cons (de_var (pv 2)) da_nil)) (dg_name (i := 9) nd rfl (by first | exact Or.inl rfl | exact Or.inr rfl)) (dss_cons (ds_set (i := 10) nd rfl (Or.inl rfl) (de_call D_same_bag (hr.mono (by decide)) hG rfl tk (da_cons (de_var (pv 4)) (da_cons (de_var (pv 5)) (da_cons (de_var (pv 7)) (da_cons (de_var (pv 9)) (da_cons (de_var (pv 2)) da_nil)))))))
    (dss_cons (ds_set (i := 11) nd rfl (Or.inl rfl) (de_call D__law_due (hr.mono (by decide)) hG rfl tk (da_cons (de_var (pv 4)) (da_cons (de_var (pv 5)) (da_cons (de_var (pv 7)) (da_cons (de_var (pv 9)) (da_cons (de_var (pv 2)) da_nil)))))))
    (dss_cons (ds_if (DW.pt (dw_or (dt_ne hr.units (de_call D_bag_blame (hr.mono (by decide)) hG rfl tk (da_cons (de_var (pv 4)) (da_cons (de_var (pv 5)) (da_cons (de_var (pv 7)) (da_cons (de_var (pv 9)) (da_cons (de_var (pv 2)) da_nil)))))) (de_var (pv 11))) (dw_or1 (dt_eq hr.units (de_var (pv 11)) (de_tup (da_cons de_str da_nil)))))) (dss_one (ds_ret de_bl)) dss_nil)
    (dss_one (ds_if (dt_eq hr.units (DO.fz (do_sorted hr.units rfl T.no_sorted (da_cons (de_var (pv 4)) da_nil))) (DO.fz (do_sorted hr.units rfl T.no_sorted (da_cons (de_var (pv 5)) da_nil)))) (dss_one (ds_if (dt_isnot (de_var (pv 10)) de_bl) (dss_one (ds_ret de_bl)) dss_nil)) (dss_one (ds_if (dt_ne hr.units (de_var (pv 10)) (de_isnot (de_var (pv 11)) de_non)) (dss_one (ds_ret de_bl)) (dss_one (ds_set (i := 6) nd rfl (Or.inl rfl) (de_add (de_var (pv 6)) (de_toInt rfl T.no_int (da_cons (de_var (pv 10)) da_nil)))))))))))))))
    (dss_cons (ds_set (i := 8) nd rfl (Or.inl rfl) (de_call D_most_same (hr.mono (by decide)) hG rfl tk (da_cons (de_len rfl T.no_len (da_cons (de_var (pv 4)) da_nil)) (da_cons (de_var (pv 3)) (da_cons (de_var (pv 2)) da_nil)))))
    (dss_one (ds_ret (de_and (de_eq hr.units (de_var (pv 8)) (de_min2 rfl rfl T.no_min (da_cons (de_mul (de_var (pv 2)) (de_var (pv 2))) (da_cons (de_mul (de_mul (de_var (pv 2)) (de_len rfl T.no_len (da_cons (de_var (pv 4)) da_nil))) (de_var (pv 3))) da_nil)))) (de_one (de_le hr.units (de_var (pv 6)) (de_var (pv 8)))))))))))))))) hsp
end
end G77

namespace G77
open PySem L2 DL
theorem iteB {b : Bool} {p q : Prop} (h1 : b = true → p) (h2 : b = false → q) : if b = true then p else q := by
  cases b with
  | true => exact iteT (h1 rfl)
  | false => exact iteF (h2 rfl)
section
variable {P : Program} {w : World} {K : PySem.W.Frag} {mg : Str → Option Value} {base : Heap}
theorem sc__law_draw : FnScope ["_law_state_here", "_law_many", "_law_cells", "_law_value", "_law_mixed"] ["_law_state_here", "_law_many"] (defScope s__law_draw) := ⟨rfl, rfl, rfl, by decide +kernel, rfl, by decide +kernel, by decide +kernel⟩
theorem d__law_draw (T : Txt K mg) : DefOk P w K mg base RD 1 "_law_draw" ["_law_state_here", "_law_many"] sp_draw := by
  have nd := sc__law_draw.nd
  obtain ⟨f, fd, hm, FF⟩ := T.f__law_draw
  refine ⟨f, fd, hm, FF.kp, FF.binds (fun _ _ _ _ _ _ us hl => match us, hl with | [_, _], _ => rfl), fnG_of FF sc__law_draw (fun vs H Q E h => ?_) fun cdv A outer s H vs Q E hr hG h => ?_⟩
  · obtain ⟨_, _, _, _, _, h, _⟩ := h
    exact h
  obtain ⟨G, m, ds, Qd, Zd, hl, h0, r, hq, h1, _⟩ := h
  obtain ⟨s, c, many, rfl, hmd, hm0, hm1, hQ⟩ := hq
  cases r with
  | cons r1 r2 =>
  cases r2 with
  | cons r2 r3 =>
  cases r3
  cases r1
  cases r2
  have d0 : Dst s c H := by
    have q := h0.res.dr
    rw [hmd] at q
    exact q
  have vs : isDr m.d s := by rw [hmd]; exact .inl rfl
  have vc : isDr m.d c := by rw [hmd]; exact .inr rfl
  have hsc := d0.ne
  refine ⟨_, pss_cons (ps_set (i := 2) nd rfl (Or.inl rfl) (pe_ix ix_list (pv 0) pe_int fun _ _ => rfl))
    (pss_cons (ps_while (passes_of rfl) (PW.pt (pw_and (pt_cmpR op_gt (pe_callB call_len (by rfl) T.no_len PySem.boot_len (pa_cons (pv 2) pa_nil)) pe_int (nomark _)) (pw_and1 (pt_cmpR op_eq (pe_ix ix_list (pv 2) pe_int fun _ _ => rfl) pe_int (nomark _)))))
      (pss_one (ps_expr (pe_bm F.plainAttrs_list F.slot_list_pop F.type_list_pop mt_popAt (pv 2) (pa_cons pe_int pa_nil)))))
    (pss_cons (ps_if (pt_cmpR op_gt (pe_callB call_len (by rfl) T.no_len PySem.boot_len (pa_cons (pv 2) pa_nil)) pe_int (nomark _))
      (pss_cons (ps_set (i := 3) nd rfl (Or.inl rfl) (pe_ix ix_list (pv 2) pe_int fun _ _ => rfl))
      (pss_cons (ps_asg (pe_op op_fdivW (pv 3) (pv 1)) (pg_sub (pv 2) pe_int set_list))
      (pss_one (ps_ret (pe_op op_mod (pe_callTy call_int1 (by rfl) T.no_int (by decide +kernel) (pa_cons (pv 3) pa_nil)) (pv 1))))))
      pss_nil)
    (pss_cons (ps_set (i := 4) nd rfl (Or.inl rfl) (pe_op op_mod (pe_callTy call_int1 (by rfl) T.no_int (by decide +kernel) (pa_cons (pe_op op_add (pe_op op_mul (pe_ix ix_list (pv 0) pe_int fun _ _ => rfl) pe_int) pe_int) pa_nil)) pe_int))
    (pss_cons (ps_asg (pv 4) (pg_sub (pv 0) pe_int set_list))
    (pss_one (ps_ret (pe_op op_mod (pe_callTy call_int1 (by rfl) T.no_int (by decide +kernel) (pa_cons (pe_op op_fdiv (pv 4) pe_int) pa_nil)) (pv 1)))))))), ?_⟩
  obtain ⟨cells, sd, e1, e2, hn, hs0, hs1⟩ := d0.ex
  have gs : G s = none := h0.vF s (.inl vs)
  have gc : G c = none := h0.vF c (.inl vc)
  have fin : ∀ (H' : Hp) (cs : List Int) (sd : Int), H' s = some (.lst [.ref c, .int sd]) → H' c = some (.lst (cs.map V.int)) → (∀ x ∈ cs, 0 ≤ x) → 0 ≤ sd → sd < 2147483648 → (∀ a o, a ≠ s → a ≠ c → H a = some o → H' a = some o) → ∀ r : Int, 0 ≤ r → r < many → Q (.int r) H' := by
    intro H' cs sd f1 f2 f3 f4 f5 fr r r0 r1
    have dr' : drOk m.d H' := by rw [hmd]; exact ⟨hsc, cs, sd, f1, f2, f3, f4, f5⟩
    have cl' : ∀ a u, m.μ a = some u → CellOk K G H' a u := fun a u e => (h0.res.cell a u e).up (Same.refl G) fun o q => fr a o (fun z => by rw [z, h0.res.ap s vs] at e; cases e) (fun z => by rw [z, h0.res.ap c vc] at e; cases e) q
    refine h1 _ H' G m _ ⟨fun a o e => fr a o (ne_of_none e gs) (ne_of_none e gc) (h0.sub a o e), ⟨dr', h0.res.ap, cl'⟩, h0.vF, fun a o e nv => ⟨fr a o (fun q => nv (.inl (q ▸ vs))) (fun q => nv (.inl (q ▸ vc))) e, rfl⟩, fun a q => .inl q, fun a o e => ?_, Same.refl G⟩ (.int r) (hQ r r0 r1)
    by_cases ha : a = s
    · exact ⟨_, by rw [ha]; exact f1⟩
    · by_cases hb : a = c
      · exact ⟨_, by rw [hb]; exact f2⟩
      · exact ⟨o, fr a o ha hb e⟩
  refine ⟨_, rfl, s, _, 0, .ref c, rfl, rfl, SqL.of e1, rfl, ?_⟩
  refine ⟨fun n σ H' => ∃ cs : List Int, n = cs.length ∧ σ = [some (.ref s), some (.int many), some (.ref c), none, none] ∧ H' s = some (.lst [.ref c, .int sd]) ∧ H' c = some (.lst (cs.map V.int)) ∧ (∀ x ∈ cs, 0 ≤ x) ∧ ∀ a o, a ≠ s → a ≠ c → H a = some o → H' a = some o, ⟨_, cells, rfl, rfl, e1, e2, hn, fun _ _ _ _ e => e⟩, ?_⟩
  rintro n σ H1 ⟨cs, rfl, rfl, f1, f2, f3, f4⟩
  refine ⟨_, rfl, _, _, rfl, .inl ⟨_, SqL.of f2, rfl⟩, _, _, rfl, rfl, _, rfl, ?_⟩
  cases cs with
  | nil =>
    refine iteF (iteF ?_)
    -- no cell is left
    refine ⟨_, rfl, _, _, rfl, .inl ⟨_, SqL.of f2, rfl⟩, _, _, rfl, rfl, _, rfl, iteF ?_⟩
    refine ⟨_, rfl, s, _, 1, .int sd, rfl, rfl, SqL.of f1, rfl, _, _, rfl, rfl, .inr ⟨by decide, by decide⟩, _, _, rfl, rfl, .inl ⟨_, rfl, _, _, rfl, rfl, (by decide : (0 : Int) < 2147483647), ?_⟩⟩
    have b0 : 0 ≤ (sd * 48271 + 12345) % 2147483647 := Int.emod_nonneg _ (by decide)
    have b1 : (sd * 48271 + 12345) % 2147483647 < 2147483647 := Int.emod_lt_of_pos _ (by decide)
    refine ⟨_, rfl, _, rfl, s, _, 1, 1, rfl, rfl, f1, rfl, ?_⟩
    refine ⟨_, rfl, _, _, rfl, rfl, ⟨by decide, by decide⟩, .inl ⟨_, rfl, _, rfl, _, _, rfl, rfl, hm0, ?_⟩⟩
    exact fin _ [] _ upd_same (by rw [upd_ne hsc.symm]; exact f2) f3 b0 (by omega) (fun a o n1 n2 e => by rw [upd_ne n1]; exact f4 a o n1 n2 e) _ (Int.emod_nonneg _ (by omega)) (Int.emod_lt_of_pos _ hm0)
  | cons x cs =>
    have x0 : 0 ≤ x := f3 x (List.mem_cons_self ..)
    have pos : decide ((0 : Int) < (((x :: cs).map V.int).length : Nat)) = true := by simp
    have at0 : atI ((x :: cs).map V.int) 0 = some (V.int x) := atI_nat (j := 0) rfl
    have ix0 : ixN ((x :: cs).map V.int).length 0 = some 0 := by simp [ixN]
    have sq0 := (ixN_seq ix0).1
    refine iteB (fun _ => ?_) (fun q => absurd (pos.symm.trans q) (by decide))
    refine ⟨_, rfl, c, _, 0, .int x, rfl, rfl, SqL.of f2, at0, rfl, _, rfl, ?_⟩
    by_cases hx : x = 0
    · subst hx
      refine iteT ⟨fun σ H' => ∃ cs' : List Int, cs'.length = cs.length ∧ σ = [some (.ref s), some (.int many), some (.ref c), none, none] ∧ H' s = some (.lst [.ref c, .int sd]) ∧ H' c = some (.lst (cs'.map V.int)) ∧ (∀ x ∈ cs', 0 ≤ x) ∧ ∀ a o, a ≠ s → a ≠ c → H a = some o → H' a = some o, fun σ' H' ⟨cs', q1, q2⟩ => ⟨cs'.length, by rw [q1]; exact Nat.lt_succ_self _, cs', rfl, q2⟩, ?_⟩
      refine ⟨_, rfl, .inl ⟨rfl, _, SqL.of f2⟩, c, _, 0, 0, .int 0, rfl, rfl, f2, by decide, by decide, sq0, rfl, ?_⟩
      exact ⟨cs, rfl, rfl, by rw [upd_ne hsc]; exact f1, upd_same, fun y hy => f3 y (List.mem_cons_of_mem _ hy), fun a o n1 n2 e => by rw [upd_ne n2]; exact f4 a o n1 n2 e⟩
    · have hx' : decide (V.int x = V.int 0) = false := decide_eq_false (fun q => hx (by cases q; rfl))
      rw [hx']
      refine iteF ?_
      refine ⟨_, rfl, _, _, rfl, .inl ⟨_, SqL.of f2, rfl⟩, _, _, rfl, rfl, _, rfl, iteB (fun _ => ?_) (fun q => absurd (pos.symm.trans q) (by decide))⟩
      refine ⟨_, rfl, c, _, 0, .int x, rfl, rfl, SqL.of f2, at0, ?_⟩
      refine ⟨_, rfl, _, rfl, _, _, rfl, rfl, wide_div hm0 (b := 64) (by omega) (by decide) (by decide), ?_⟩
      refine ⟨_, rfl, c, _, 0, 0, rfl, rfl, f2, ix0, ?_⟩
      refine ⟨_, rfl, .inl ⟨_, rfl, _, rfl, _, _, rfl, rfl, hm0, ?_⟩⟩
      refine fin _ (x / many :: cs) sd (by rw [upd_ne hsc]; exact f1) upd_same ?_ hs0 hs1 (fun a o n1 n2 e => by rw [upd_ne n2]; exact f4 a o n1 n2 e) _ (Int.emod_nonneg _ (by omega)) (Int.emod_lt_of_pos _ hm0)
      intro y hy
      rcases List.mem_cons.mp hy with e | hy
      · rw [e]; exact Int.ediv_nonneg x0 (by omega)
      · exact f3 y (List.mem_cons_of_mem _ hy)
end
end G77

namespace PL
open PySem L2 DL
/-! marks and products of rows, plain -/
def markS (s : Int) : List Int → Int
  | [] => 0
  | n :: r => n + s * markS s r
def prodS (s t : Int) : List (List Int) → Int
  | [] => 1
  | r :: rs => (t - markS s r) * prodS s t rs
theorem mod_lo {a p : Int} (h : 2 ≤ p) : 0 ≤ a % p := Int.emod_nonneg _ (by omega)
theorem mod_hi {a p : Int} (h : 2 ≤ p) : a % p < p := Int.emod_lt_of_pos _ (by omega)
theorem markS_rev (s p : Int) : ∀ row : List Int, row.reverse.foldl (fun t n => (t * s + n) % p) 0 = markS s row % p
  | [] => by simp [markS]
  | n :: r => by
    rw [List.reverse_cons, List.foldl_append, markS_rev s p r]
    exact ((Eqm.mod.mul Eqm.rfl).add Eqm.rfl).trans (Eqm.of (by show markS s r * s + n = n + s * markS s r; grind))
theorem prodS_perm {s t : Int} {a b : List (List Int)} (h : a.Perm b) : prodS s t a = prodS s t b := by
  induction h with
  | nil => rfl
  | cons x _ ih => rw [prodS, prodS, ih]
  | swap x y l => simp only [prodS]; grind
  | trans _ _ h1 h2 => rw [h1, h2]
end PL

namespace G77
open PySem L2 DL PL
local macro_rules | `(tactic| walk_at "w") => `(tactic| (conv => whnf))
local macro_rules | `(tactic| walk_at "s") => `(tactic| ((conv => whnf); first
  | refine And.intro trivial ?_ | refine And.intro (And.intro trivial trivial) ?_ | refine And.intro (And.intro trivial (And.intro trivial trivial)) ?_ | refine And.intro (And.intro trivial (And.intro trivial (And.intro trivial trivial))) ?_ | refine And.intro (And.intro trivial (And.intro trivial (And.intro trivial (And.intro trivial trivial)))) ?_ | refine And.intro (And.intro trivial (And.intro trivial (And.intro trivial (And.intro trivial (And.intro trivial trivial))))) ?_ | refine And.intro (And.intro trivial (And.intro trivial (And.intro trivial (And.intro trivial (And.intro trivial (And.intro trivial trivial)))))) ?_ | refine And.intro (And.intro trivial (And.intro trivial (And.intro trivial (And.intro trivial (And.intro trivial (And.intro trivial (And.intro trivial trivial))))))) ?_ | refine And.intro (And.intro trivial (And.intro trivial (And.intro trivial (And.intro trivial (And.intro trivial (And.intro trivial (And.intro trivial (And.intro trivial trivial)))))))) ?_ | refine And.intro (And.intro trivial (And.intro trivial (And.intro trivial (And.intro trivial (And.intro trivial (And.intro trivial (And.intro trivial (And.intro trivial (And.intro trivial trivial))))))))) ?_ | refine And.intro (And.intro trivial (And.intro trivial (And.intro trivial (And.intro trivial (And.intro trivial (And.intro trivial (And.intro trivial (And.intro trivial (And.intro trivial (And.intro trivial trivial)))))))))) ?_
  | refine And.intro (fun (_ : true = true) => ?_) (fun (q : true = false) => Bool.noConfusion q) | refine And.intro (fun (q : false = true) => Bool.noConfusion q) (fun (_ : false = false) => ?_) | refine And.intro rfl ?_
  | refine And.intro (by show (0 : Int) < _; omega) ?_ | refine And.intro (Or.inl (And.intro (by omega) (by omega))) ?_ | refine And.intro (Or.inr (And.intro (by omega) (by omega))) ?_ | refine And.intro (And.intro (by decide) (by decide)) ?_ | refine And.intro (DL.size1000 (Nat.le_of_ble_eq_true rfl)) ?_))
local macro_rules | `(tactic| walk_at "r") => `(tactic| ((repeat walk_at "s"); try walk_at "w"))
local macro_rules | `(tactic| walk_at "eqI") => `(tactic| (refine And.intro (pl_eI _) (And.intro (pl_eI _) (And.intro (shaped_eI _) (And.intro (shaped_eI _) ?_))); rw [eqv_flat_eI]))
local macro_rules | `(tactic| walk_at "eqII") => `(tactic| (refine And.intro (pl_eII _) (And.intro (pl_eII _) (And.intro (shaped_eII _) (And.intro (shaped_eII _) ?_))); rw [eqv_flat_eII]))
/-! ### mark, product -/
def sp_mark : SpD R0 := fun ds m Q _ => ∃ (row : List Int) (s p : Int), ds = [eI row, .int s, .int p] ∧ 0 ≤ s ∧ s < p ∧ p ≤ 2147483647 ∧ Q (.int (markS s row % p)) m
theorem mark_loop {E : DEnds R0} {s p : Int} {r : D} (hp : 0 < p) (hp2 : p ≤ 2147483647) : ∀ (l : List Int) (tot : Int) (j : En) (m : R0.M), 0 ≤ tot → tot < p →
    (∀ j, E.nx [.dat r, .dat (.int s), .dat (.int p), .dat (.int (l.foldl (fun t n => (t * s + n) % p) tot)), j] m) → forD (tName 4) b1_mark E (l.map .int) [.dat r, .dat (.int s), .dat (.int p), .dat (.int tot), j] m
  | [], _, j, _, _, _, h => h j
  | n :: l, tot, j, m, h0, h1, h => by
    walk_at "s"
    walk_at "s"
    walk_at "s"
    exact mark_loop hp hp2 l _ _ m (Int.emod_nonneg _ (by omega)) (Int.emod_lt_of_pos _ hp) h
def sp_product : SpD R0 := fun ds m Q _ => ∃ (rows : List (List Int)) (s t p : Int), ds = [eII rows, .int s, .int t, .int p] ∧ 0 ≤ s ∧ s < p ∧ 2 ≤ p ∧ p ≤ 2147483647 ∧ Q (.int (prodS s t rows % p)) m
theorem product_loop {E : DEnds R0} {s t p : Int} {r : D} {m : R0.M} (hs : 0 ≤ s) (hs2 : s < p) (hp : 2 ≤ p) (hp2 : p ≤ 2147483647) : ∀ (l : List (List Int)) (tot : Int) (j : En), 0 ≤ tot → tot < p →
    (∀ j, E.nx [.dat r, .dat (.int s), .dat (.int t), .dat (.int p), .dat (.int (tot * prodS s t l % p)), j] m) → forD (tName 5) (b1_product sp_mark) E (l.map eI) [.dat r, .dat (.int s), .dat (.int t), .dat (.int p), .dat (.int tot), j] m
  | [], tot, j, h0, h1, h => by
    have := h j
    rw [prodS, Int.mul_one, Int.emod_eq_of_lt h0 h1] at this
    exact this
  | n :: l, tot, j, h0, h1, h => by
    walk_at "s"
    refine ⟨n, s, p, rfl, hs, hs2, hp2, ?_⟩
    walk_at "s"
    walk_at "s"
    walk_at "s"
    refine product_loop hs hs2 hp hp2 l _ _ (mod_lo hp) (mod_hi hp) fun j => ?_
    have k : Eqm p (tot * (t - markS s n % p) % p * prodS s t l) (tot * ((t - markS s n) * prodS s t l)) :=
      (((Eqm.mod.trans (Eqm.rfl.mul (Eqm.rfl.sub Eqm.mod)))).mul Eqm.rfl).trans (Eqm.of (by grind))
    have k' : tot * (t - markS s n % p) % p * prodS s t l % p = tot * ((t - markS s n) * prodS s t l) % p := k
    rw [k']
    exact h j
def sp_same_bag : SpD R0 := fun ds m Q _ => ∃ (rows others : List (List Int)) (s t p : Int), ds = [eII rows, eII others, .int s, .int t, .int p] ∧ 0 ≤ s ∧ s < p ∧ 2 ≤ p ∧ p ≤ 2147483647 ∧
  Q (.bl (decide (rows.length = others.length ∧ prodS s t rows % p = prodS s t others % p))) m
section
variable {P : Program} {w : World} {K : PySem.W.Frag} {mg : Str → Option Value} {base : Heap}
theorem d_mark (T : Txt K mg) : DefOk P w K mg base R0 1 "mark" ["row", "s", "p"] sp_mark := by
  refine dv_mark T fun ds m Q Z hl h => ?_
  obtain ⟨row, s, p, rfl, h0, h1, h2, hq⟩ := h
  walk_at "s"
  walk_at "w"
  rw [← List.map_reverse]
  refine mark_loop (by omega) h2 _ 0 _ m (by omega) (by omega) fun j => ?_
  walk_at "s"
  walk_at "w"
  rw [markS_rev]
  exact hq
theorem d_product (T : Txt K mg) : DefOk P w K mg base R0 2 "product" ["rows", "s", "t", "p"] sp_product := by
  refine dv_product T (d_mark T) fun ds m Q Z hl h => ?_
  obtain ⟨rows, s, t, p, rfl, h0, h1, h2, h3, hq⟩ := h
  walk_at "s"
  walk_at "s"
  walk_at "w"
  refine product_loop h0 h1 h2 h3 _ _ _ (mod_lo h2) (mod_hi h2) fun j => ?_
  walk_at "s"
  walk_at "w"
  have k : Eqm p (1 % p * prodS s t rows) (prodS s t rows) := (Eqm.mod.mul Eqm.rfl).trans (Eqm.of (Int.one_mul _))
  have k' : 1 % p * prodS s t rows % p = prodS s t rows % p := k
  rw [k']
  exact hq
theorem d_same_bag (T : Txt K mg) : DefOk P w K mg base R0 3 "same_bag" ["rows", "others", "s", "t", "p"] sp_same_bag := by
  refine dv_same_bag T (d_product T) fun ds m Q Z hl h => ?_
  obtain ⟨rows, others, s, t, p, rfl, h0, h1, h2, h3, hq⟩ := h
  walk_at "w"
  refine dec2 (fun he => ?_) (fun he => ?_)
  · walk_at "s"
    refine ⟨rows, s, t, p, rfl, h0, h1, h2, h3, ?_⟩
    walk_at "s"
    refine ⟨others, s, t, p, rfl, h0, h1, h2, h3, ?_⟩
    walk_at "s"
    walk_at "w"
    have he' : rows.length = others.length := by simp only [List.length_map] at he; omega
    rw [← show decide (rows.length = others.length ∧ prodS s t rows % p = prodS s t others % p) = decide (prodS s t rows % p = prodS s t others % p) by simp [he']]
    exact hq
  · walk_at "s"
    walk_at "w"
    have he' : ¬ rows.length = others.length := by simp only [List.length_map] at he; omega
    rw [show decide (rows.length = others.length ∧ prodS s t rows % p = prodS s t others % p) = false by simp [he']] at hq
    exact hq
end
end G77

namespace G77
open PySem L2 DL PL
local macro_rules | `(tactic| walk_at "w") => `(tactic| (conv => whnf))
local macro_rules | `(tactic| walk_at "s") => `(tactic| ((conv => whnf); first
  | refine And.intro trivial ?_ | refine And.intro (And.intro trivial trivial) ?_ | refine And.intro (And.intro trivial (And.intro trivial trivial)) ?_ | refine And.intro (And.intro trivial (And.intro trivial (And.intro trivial trivial))) ?_ | refine And.intro (And.intro trivial (And.intro trivial (And.intro trivial (And.intro trivial trivial)))) ?_ | refine And.intro (And.intro trivial (And.intro trivial (And.intro trivial (And.intro trivial (And.intro trivial trivial))))) ?_ | refine And.intro (And.intro trivial (And.intro trivial (And.intro trivial (And.intro trivial (And.intro trivial (And.intro trivial trivial)))))) ?_ | refine And.intro (And.intro trivial (And.intro trivial (And.intro trivial (And.intro trivial (And.intro trivial (And.intro trivial (And.intro trivial trivial))))))) ?_ | refine And.intro (And.intro trivial (And.intro trivial (And.intro trivial (And.intro trivial (And.intro trivial (And.intro trivial (And.intro trivial (And.intro trivial trivial)))))))) ?_ | refine And.intro (And.intro trivial (And.intro trivial (And.intro trivial (And.intro trivial (And.intro trivial (And.intro trivial (And.intro trivial (And.intro trivial (And.intro trivial trivial))))))))) ?_ | refine And.intro (And.intro trivial (And.intro trivial (And.intro trivial (And.intro trivial (And.intro trivial (And.intro trivial (And.intro trivial (And.intro trivial (And.intro trivial (And.intro trivial trivial)))))))))) ?_
  | refine And.intro (fun (_ : true = true) => ?_) (fun (q : true = false) => Bool.noConfusion q) | refine And.intro (fun (q : false = true) => Bool.noConfusion q) (fun (_ : false = false) => ?_) | refine And.intro rfl ?_
  | refine And.intro (by show (0 : Int) < _; omega) ?_ | refine And.intro (Or.inl (And.intro (by omega) (by omega))) ?_ | refine And.intro (Or.inr (And.intro (by omega) (by omega))) ?_ | refine And.intro (And.intro (by decide) (by decide)) ?_ | refine And.intro (DL.size1000 (Nat.le_of_ble_eq_true rfl)) ?_))
local macro_rules | `(tactic| walk_at "r") => `(tactic| ((repeat walk_at "s"); try walk_at "w"))
local macro_rules | `(tactic| walk_at "eqI") => `(tactic| (refine And.intro (pl_eI _) (And.intro (pl_eI _) (And.intro (shaped_eI _) (And.intro (shaped_eI _) ?_))); rw [eqv_flat_eI]))
local macro_rules | `(tactic| walk_at "eqII") => `(tactic| (refine And.intro (pl_eII _) (And.intro (pl_eII _) (And.intro (shaped_eII _) (And.intro (shaped_eII _) ?_))); rw [eqv_flat_eII]))
def sp__law_pick : SpD RD := fun ds m Q _ => ∃ (s c : Addr) (l : List D), ds = [.raw (.ref s), .lst l] ∧ m.d = some (s, c) ∧ 0 < l.length ∧ l.length < 2 ^ 64 ∧ (∀ d ∈ l, d.firm) ∧ ∀ d ∈ l, Q d m
def sp__law_mark : SpD RD := fun ds m Q _ => ∃ (row : List Int) (s p : Int), ds = [eI row, .int s, .int p] ∧ 0 ≤ s ∧ s < p ∧ 2 ≤ p ∧ p ≤ 2147483647 ∧ Q (.int (markS s row % p)) m
def sp__law_product : SpD RD := fun ds m Q _ => ∃ (rows : List (List Int)) (s t p : Int), ds = [eII rows, .int s, .int t, .int p] ∧ 0 ≤ s ∧ s < p ∧ 2 ≤ p ∧ p ≤ 2147483647 ∧ Q (.int (prodS s t rows % p)) m
def sp__law_times : SpD RD := fun ds m Q _ => ∃ (rows : List (List Int)) (row : List Int), ds = [eII rows, eI row] ∧ rows.length ≤ 1000 ∧ Q (.int ((rows.filter fun o => decide (o = row)).length : Int)) m
def sp__law_state : SpD RD := fun ds m Q _ => ∃ ns : List Int, ds = [eI ns] ∧ ns.length ≤ 63 ∧ m.d = none ∧ ∀ (s c : Addr) m', m'.d = some (s, c) → Q (.raw (.ref s)) m'
def sp__law_turned : SpD RD := fun ds m Q _ => ∃ (s c : Addr) (rows : List (List Int)), ds = [.raw (.ref s), eII rows] ∧ m.d = some (s, c) ∧ rows.length ≤ 1000 ∧ ∀ others, List.Perm rows others → Q (eII others) m
def okRows (many width p : Int) (rows : List (List Int)) : Prop := (rows.length : Int) = many ∧ ∀ r ∈ rows, (r.length : Int) = width ∧ ∀ i ∈ r, 0 ≤ i ∧ i < p
def sp__law_rows : SpD RD := fun ds m Q _ => ∃ (s c : Addr) (many width p : Int), ds = [.raw (.ref s), .int many, .int width, .int p] ∧ m.d = some (s, c) ∧ 0 ≤ many ∧ many ≤ 12 ∧ 1 ≤ width ∧ width ≤ 4 ∧ 0 < p ∧ p ≤ 2147483647 ∧ ∀ rows, okRows many width p rows → Q (eII rows) m
def sp__law_other : SpD RD := fun ds m Q _ => ∃ (s c : Addr) (rows : List (List Int)) (many width p : Int), ds = [.raw (.ref s), eII rows, .int width, .int p] ∧ m.d = some (s, c) ∧ 0 < many ∧ many ≤ 12 ∧ 1 ≤ width ∧ width ≤ 4 ∧ 0 < p ∧ p ≤ 2147483647 ∧ okRows many width p rows ∧ ∀ others m', m'.d = m.d → okRows many width p others → Q (eII others) m'
theorem mark_turn {s p : Int} : ∀ (l : List Int) (tot fac : Int), (l.foldl (fun (q : Int × Int) n => ((q.1 + n * q.2) % p, q.2 * s % p)) (tot, fac)).1 % p = (tot + fac * markS s l) % p
  | [], tot, fac => by simp [markS]
  | n :: l, tot, fac => by
    rw [List.foldl_cons, mark_turn l]
    exact (Eqm.add Eqm.mod (Eqm.mul Eqm.mod Eqm.rfl)).trans (Eqm.of (by rw [markS]; grind))
theorem lmark_loop {E : DEnds RD} {s p : Int} {r : D} {m : RD.M} (hp : 2 ≤ p) (hp2 : p ≤ 2147483647) : ∀ (l : List Int) (tot fac : Int) (j : En), 0 ≤ tot → tot < p → 0 ≤ fac → fac < p →
    (∀ j k, E.nx [.dat r, .dat (.int s), .dat (.int p), .dat (.int ((tot + fac * markS s l) % p)), k, j] m) → forD (tName 5) b1__law_mark E (l.map .int) [.dat r, .dat (.int s), .dat (.int p), .dat (.int tot), .dat (.int fac), j] m
  | [], tot, fac, j, h0, h1, _, _, h => by
    have := h j (.dat (.int fac))
    rw [markS, Int.mul_zero, Int.add_zero, Int.emod_eq_of_lt h0 h1] at this
    exact this
  | n :: l, tot, fac, j, h0, h1, h2, h3, h => by
    walk_at "r"
    refine lmark_loop hp hp2 l _ _ _ (mod_lo hp) (mod_hi hp) (mod_lo hp) (mod_hi hp) fun j k => ?_
    have k1 : Eqm p ((tot + n * fac) % p + fac * s % p * markS s l) (tot + fac * (n + s * markS s l)) := (Eqm.add Eqm.mod (Eqm.mul Eqm.mod Eqm.rfl)).trans (Eqm.of (by grind))
    have k2 : ((tot + n * fac) % p + fac * s % p * markS s l) % p = (tot + fac * (n + s * markS s l)) % p := k1
    show E.nx [_, _, _, .dat (.int (((tot + n * fac) % p + fac * s % p * markS s l) % p)), _, _] _
    rw [k2]
    exact h j k
theorem lprod_loop {E : DEnds RD} {s t p : Int} {r : D} {m : RD.M} (hs : 0 ≤ s) (hs2 : s < p) (hp : 2 ≤ p) (hp2 : p ≤ 2147483647) : ∀ (l : List (List Int)) (tot : Int) (j : En), 0 ≤ tot → tot < p →
    (∀ j, E.nx [.dat r, .dat (.int s), .dat (.int t), .dat (.int p), .dat (.int (tot * prodS s t l % p)), j] m) → forD (tName 5) (b1__law_product sp__law_mark) E (l.map eI) [.dat r, .dat (.int s), .dat (.int t), .dat (.int p), .dat (.int tot), j] m
  | [], tot, j, h0, h1, h => by
    have := h j
    rw [prodS, Int.mul_one, Int.emod_eq_of_lt h0 h1] at this
    exact this
  | n :: l, tot, j, h0, h1, h => by
    walk_at "r"
    refine ⟨n, s, p, rfl, hs, hs2, hp, hp2, ?_⟩
    walk_at "r"
    refine lprod_loop hs hs2 hp hp2 l _ _ (mod_lo hp) (mod_hi hp) fun j => ?_
    have k : Eqm p (tot * (t - markS s n % p) % p * prodS s t l) (tot * ((t - markS s n) * prodS s t l)) :=
      (((Eqm.mod.trans (Eqm.rfl.mul (Eqm.rfl.sub Eqm.mod)))).mul Eqm.rfl).trans (Eqm.of (by grind))
    have k' : tot * (t - markS s n % p) % p * prodS s t l % p = tot * ((t - markS s n) * prodS s t l) % p := k
    rw [k']
    exact h j
theorem turned_loop {E : DEnds RD} {rows : List (List Int)} {m : RD.M} {s c : Addr} {r : D} (hd : m.d = some (s, c)) (hn : rows.length ≤ 1000) : ∀ (n : Nat) (left found : List (List Int)), left.length < n → List.Perm rows (found ++ left) →
    (∀ others, List.Perm rows others → E.nx [.dat (.raw (.ref s)), .dat r, .own [], .own (others.map eI)] m) →
    whileN (bOf (eOp dGt (eCl dLen (aCons (eVar 2) aNil)) (eC (.int 0)))) (b1__law_turned sp_draw) E n [.dat (.raw (.ref s)), .dat r, .own (left.map eI), .own (found.map eI)] m
  | 0, _, _, h, _, _ => by omega
  | n + 1, left, found, hl, hp, h => by
    walk_at "w"
    refine dec2 (fun e => ?_) (fun e => ?_)
    · simp only [List.length_map] at e
      walk_at "w"
      refine ⟨⟨_, rfl⟩, ?_⟩
      walk_at "r"
      refine ⟨⟨_, rfl⟩, ?_⟩
      walk_at "r"
      have hlen := hp.length_eq
      rw [List.length_append] at hlen
      refine ⟨s, c, _, rfl, hd, by simp only [List.length_map]; omega, by simp only [List.length_map]; omega, fun k hk0 hk1 => ?_⟩
      simp only [List.length_map] at hk1
      walk_at "r"
      obtain ⟨row, hr⟩ := get_some hk0 hk1
      refine ⟨⟨by omega, by omega⟩, k.toNat, eI row, seq_ok hk0 (by rw [List.length_map]; exact hk1), by rw [List.getElem?_map, hr]; rfl, ?_⟩
      walk_at "r"
      refine ⟨by rw [List.length_map, sizeLine_eq]; omega, ?_⟩
      walk_at "w"
      have hlt : k.toNat < left.length := by omega
      have e1 : (left.map eI).eraseIdx k.toNat = (left.eraseIdx k.toNat).map eI := eraseIdx_map eI left k.toNat
      have e2 : found.map eI ++ [eI row] = (found ++ [row]).map eI := by rw [List.map_append]; rfl
      rw [e1, e2]
      refine turned_loop hd hn n _ _ ?_ ?_ h
      · rw [List.length_eraseIdx_of_lt hlt]; omega
      · refine hp.trans ?_
        rw [List.append_assoc]
        refine List.Perm.append_left found ?_
        exact erase_perm left _ row hr
    · simp only [List.length_map] at e
      have e0 : left = [] := List.length_eq_zero_iff.mp (by omega)
      subst e0
      rw [List.append_nil] at hp
      exact h found hp
theorem state_loop {E : DEnds RD} {r : D} {m : RD.M} : ∀ (l : List Int) (sd : Int) (j : En), 0 ≤ sd → sd < 1000004 → (∀ sd j, 0 ≤ sd → sd < 1000004 → E.nx [.dat r, .dat (.int sd), j] m) → forD (tName 2) b1__law_state E (l.map .int) [.dat r, .dat (.int sd), j] m
  | [], sd, j, h0, h1, h => h sd j h0 h1
  | n :: l, sd, j, h0, h1, h => by
    walk_at "r"
    exact state_loop l _ _ (by omega) (by omega) h
section
variable {P : Program} {w : World} {K : PySem.W.Frag} {mg : Str → Option Value} {base : Heap}
theorem d__law_mark (T : Txt K mg) : DefOk P w K mg base RD 1 "_law_mark" ["_law_row", "_law_s", "_law_p"] sp__law_mark := by
  refine dv__law_mark T fun ds m Q Z hl h => ?_
  obtain ⟨row, s, p, rfl, h0, h1, h2, h3, hq⟩ := h
  walk_at "r"
  refine lmark_loop h2 h3 _ 0 1 _ (by omega) (by omega) (by omega) (by omega) fun j k => ?_
  walk_at "r"
  rw [Int.zero_add, Int.one_mul]
  exact hq
theorem d__law_product (T : Txt K mg) : DefOk P w K mg base RD 2 "_law_product" ["_law_rows_here", "_law_s", "_law_t", "_law_p"] sp__law_product := by
  refine dv__law_product T (d__law_mark T) fun ds m Q Z hl h => ?_
  obtain ⟨rows, s, t, p, rfl, h0, h1, h2, h3, hq⟩ := h
  walk_at "r"
  refine lprod_loop h0 h1 h2 h3 _ 1 _ (by omega) (by omega) fun j => ?_
  walk_at "r"
  show Q (.int _) m
  rw [Int.one_mul, Int.emod_emod_of_dvd _ (Int.dvd_refl p)]
  exact hq
theorem d__law_pick (T : Txt K mg) : DefOk P w K mg base RD 2 "_law_pick" ["_law_state_here", "_law_row"] sp__law_pick := by
  refine dv__law_pick T (d__law_draw T) fun ds m Q Z hl h => ?_
  obtain ⟨s, c, l, rfl, hd, h0, h1, hf, hq⟩ := h
  walk_at "r"
  refine ⟨s, c, _, rfl, hd, by omega, by omega, fun r hr0 hr1 => ?_⟩
  walk_at "r"
  obtain ⟨d, e⟩ := get_some hr0 hr1
  refine ⟨_, d, rfl, ?_, ?_⟩
  · unfold atI
    rw [ixN_ok hr0 hr1]
    exact e
  · have hm : d ∈ l := List.mem_of_getElem? e
    exact ⟨(hf d hm), hq d hm⟩
theorem d__law_times (T : Txt K mg) : DefOk P w K mg base RD 1 "_law_times" ["_law_rows_here", "_law_row"] sp__law_times := by
  refine dv__law_times T fun ds m Q Z hl h => ?_
  obtain ⟨rows, row, rfl, hn, hq⟩ := h
  walk_at "r"
  refine lcD_filterT eI (fun o => decide (o = row)) eI rows [] (fun o ho P hP => ?_) (fun _ => trivial) (by rw [List.length_nil]; exact size1000 (by omega)) ?_
  · walk_at "r"
    walk_at "eqI"
    refine hP _ (fun _ P2 h2 => ?_) rfl
    walk_at "w"
    exact h2 _ rfl
  · walk_at "r"
    rw [List.nil_append, List.length_map]
    exact hq
theorem d__law_turned (T : Txt K mg) : DefOk P w K mg base RD 2 "_law_turned" ["_law_state_here", "_law_rows_here"] sp__law_turned := by
  refine dv__law_turned T (d__law_draw T) fun ds m Q Z hl h => ?_
  obtain ⟨s, c, rows, rfl, hd, hn, hq⟩ := h
  walk_at "r"
  refine ⟨rows.length + 1, ?_⟩
  refine turned_loop hd hn _ rows [] (by omega) (List.Perm.refl _) fun others ho => ?_
  walk_at "r"
  exact hq others ho
theorem d__law_state (T : Txt K mg) : DefOk P w K mg base RD 1 "_law_state" ["_law_script"] sp__law_state := by
  refine dv__law_state T fun ds m Q Z hl h => ?_
  obtain ⟨ns, rfl, hn, hd, hq⟩ := h
  walk_at "r"
  refine state_loop ns 7 _ (by omega) (by omega) fun sd j h0 h1 => ?_
  walk_at "w"
  refine lcD_mapT D.int (fun i : Int => D.int (if i < 0 then -i else i)) ns [] (fun a ha P hP => ?_) (fun _ => trivial) (by rw [List.length_nil]; exact size1000 (by omega)) ?_
  · walk_at "r"
    exact hP _ rfl
  · walk_at "r"
    refine ⟨⟨ns.map fun i : Int => if i < 0 then -i else i, by rw [List.map_map]; rfl, fun n hn => ?_⟩, by omega, by omega, hd, fun s c _ _ => hq s c _ rfl⟩
    obtain ⟨i, _, rfl⟩ := List.mem_map.mp hn
    show 0 ≤ if i < 0 then -i else i
    split <;> omega
theorem d__law_rows (T : Txt K mg) : DefOk P w K mg base RD 3 "_law_rows" ["_law_state_here", "_law_many", "_law_width", "_law_p"] sp__law_rows := by
  refine dv__law_rows T (d__law_draw T) (d__law_pick T) fun ds m Q Z hl h => ?_
  obtain ⟨s, c, many, width, p, rfl, hd, h0, h1, h2, h3, h4, h5, hq⟩ := h
  walk_at "r"
  refine ⟨s, c, _, rfl, hd, by omega, by omega, fun n hn0 hn1 => ?_⟩
  walk_at "r"
  refine ⟨⟨by omega, by omega⟩, ?_⟩
  walk_at "w"
  refine lcD_all (fun k : Nat => D.int (0 + (k : Int) * 1)) eI (fun r => (r.length : Int) = width ∧ ∀ i ∈ r, 0 ≤ i ∧ i < p) _ (fun a ha P hP => ?_) (fun _ => trivial) (by rw [List.length_range]; exact size1000 (by omega)) fun pool hpl hpo => ?_
  · walk_at "w"
    refine ⟨⟨by omega, by omega⟩, ?_⟩
    walk_at "w"
    refine lcD_all (fun k : Nat => D.int (0 + (k : Int) * 1)) D.int (fun i => 0 ≤ i ∧ i < p) _ (fun a ha P hP => ?_) (fun _ => trivial) (by rw [List.length_range]; exact size1000 (by omega)) fun row hrl hro => ?_
    · walk_at "r"
      refine ⟨s, c, _, rfl, hd, h4, by omega, fun i i0 i1 => hP i _ ⟨i0, i1⟩ rfl⟩
    · rw [List.length_range] at hrl
      exact hP row _ ⟨by omega, hro⟩ rfl
  · rw [List.length_range] at hpl
    walk_at "r"
    refine ⟨⟨by omega, by omega⟩, ?_⟩
    walk_at "w"
    refine lcD_all (fun k : Nat => D.int (0 + (k : Int) * 1)) eI (fun r => (r.length : Int) = width ∧ ∀ i ∈ r, 0 ≤ i ∧ i < p) _ (fun a ha P hP => ?_) (fun _ => trivial) (by rw [List.length_range]; exact size1000 (by omega)) fun rows hrl hro => ?_
    · walk_at "r"
      refine ⟨s, c, _, rfl, hd, by rw [List.length_map]; omega, by rw [List.length_map]; omega, fun d hd => by obtain ⟨r, _, rfl⟩ := List.mem_map.mp hd; trivial, fun d hd => ?_⟩
      obtain ⟨r, hr, rfl⟩ := List.mem_map.mp hd
      walk_at "r"
      exact hP r _ (hpo r hr) rfl
    · rw [List.length_range] at hrl
      walk_at "r"
      exact hq rows ⟨by omega, hro⟩
end
end G77

namespace G77
open PySem L2 DL PL
local macro_rules | `(tactic| walk_at "w") => `(tactic| (conv => whnf))
local macro_rules | `(tactic| walk_at "s") => `(tactic| ((conv => whnf); first
  | refine And.intro trivial ?_ | refine And.intro (And.intro trivial trivial) ?_ | refine And.intro (And.intro trivial (And.intro trivial trivial)) ?_ | refine And.intro (And.intro trivial (And.intro trivial (And.intro trivial trivial))) ?_ | refine And.intro (And.intro trivial (And.intro trivial (And.intro trivial (And.intro trivial trivial)))) ?_ | refine And.intro (And.intro trivial (And.intro trivial (And.intro trivial (And.intro trivial (And.intro trivial trivial))))) ?_ | refine And.intro (And.intro trivial (And.intro trivial (And.intro trivial (And.intro trivial (And.intro trivial (And.intro trivial trivial)))))) ?_ | refine And.intro (And.intro trivial (And.intro trivial (And.intro trivial (And.intro trivial (And.intro trivial (And.intro trivial (And.intro trivial trivial))))))) ?_ | refine And.intro (And.intro trivial (And.intro trivial (And.intro trivial (And.intro trivial (And.intro trivial (And.intro trivial (And.intro trivial (And.intro trivial trivial)))))))) ?_ | refine And.intro (And.intro trivial (And.intro trivial (And.intro trivial (And.intro trivial (And.intro trivial (And.intro trivial (And.intro trivial (And.intro trivial (And.intro trivial trivial))))))))) ?_ | refine And.intro (And.intro trivial (And.intro trivial (And.intro trivial (And.intro trivial (And.intro trivial (And.intro trivial (And.intro trivial (And.intro trivial (And.intro trivial (And.intro trivial trivial)))))))))) ?_
  | refine And.intro (fun (_ : true = true) => ?_) (fun (q : true = false) => Bool.noConfusion q) | refine And.intro (fun (q : false = true) => Bool.noConfusion q) (fun (_ : false = false) => ?_) | refine And.intro rfl ?_
  | refine And.intro (by show (0 : Int) < _; omega) ?_ | refine And.intro (Or.inl (And.intro (by omega) (by omega))) ?_ | refine And.intro (Or.inr (And.intro (by omega) (by omega))) ?_ | refine And.intro (And.intro (by decide) (by decide)) ?_ | refine And.intro (DL.size1000 (Nat.le_of_ble_eq_true rfl)) ?_))
local macro_rules | `(tactic| walk_at "r") => `(tactic| ((repeat walk_at "s"); try walk_at "w"))
local macro_rules | `(tactic| walk_at "eqI") => `(tactic| (refine And.intro (pl_eI _) (And.intro (pl_eI _) (And.intro (shaped_eI _) (And.intro (shaped_eI _) ?_))); rw [eqv_flat_eI]))
local macro_rules | `(tactic| walk_at "eqII") => `(tactic| (refine And.intro (pl_eII _) (And.intro (pl_eII _) (And.intro (shaped_eII _) (And.intro (shaped_eII _) ?_))); rw [eqv_flat_eII]))
/-! ### changed: rows as cells of their own -/
abbrev rawA (a : Addr) : D := .raw (.ref a)
abbrev cellsAt (m : Ms) (as : List Addr) (rows : List (List Int)) : Prop := All2 (fun (a : Addr) (r : List Int) => m.μ a = some (.lst (r.map .int))) as rows
theorem All2.append {α β : Type} {r : α → β → Prop} : ∀ {as as' : List α} {bs bs' : List β}, All2 r as bs → All2 r as' bs' → All2 r (as ++ as') (bs ++ bs')
  | _, _, _, _, .nil, h => h
  | _, _, _, _, .cons x t, h => .cons x (All2.append t h)
theorem All2.impL {α β : Type} {r s : α → β → Prop} : ∀ {as : List α} {bs : List β}, All2 r as bs → (∀ a ∈ as, ∀ b, r a b → s a b) → All2 s as bs
  | _, _, .nil, _ => .nil
  | _, _, .cons x t, h => .cons (h _ (List.mem_cons_self ..) _ x) (All2.impL t fun a ha => h a (List.mem_cons_of_mem _ ha))
theorem All2.mem {α β : Type} {r : α → β → Prop} : ∀ {as : List α} {bs : List β}, All2 r as bs → ∀ a ∈ as, ∃ b, r a b
  | _, _, .cons x t, a, h => by
    rcases List.mem_cons.mp h with e | h
    · exact ⟨_, e ▸ x⟩
    · exact All2.mem t a h
theorem All2.take {α β : Type} {r : α → β → Prop} : ∀ {as : List α} {bs : List β} (n : Nat), All2 r as bs → All2 r (as.take n) (bs.take n)
  | _, _, 0, _ => by rw [List.take_zero, List.take_zero]; exact .nil
  | _, _, n + 1, .nil => .nil
  | _, _, n + 1, .cons x t => .cons x (All2.take n t)
theorem All2.drop {α β : Type} {r : α → β → Prop} : ∀ {as : List α} {bs : List β} (n : Nat), All2 r as bs → All2 r (as.drop n) (bs.drop n)
  | _, _, 0, h => h
  | _, _, n + 1, .nil => .nil
  | _, _, n + 1, .cons x t => All2.drop n t
theorem All2.get {α β : Type} {r : α → β → Prop} : ∀ {as : List α} {bs : List β} (n : Nat) (a : α) (b : β), All2 r as bs → as[n]? = some a → bs[n]? = some b → r a b
  | _, _, _, _, _, .nil, h, _ => by cases h
  | _, _, 0, _, _, .cons x t, h1, h2 => by cases h1; cases h2; exact x
  | _, _, n + 1, a, b, .cons x t, h1, h2 => All2.get n a b t h1 h2
theorem put_new {m : Ms} {a : Addr} {as : List Addr} {rows : List (List Int)} {r : List Int} (h : cellsAt m as rows) (hn : m.μ a = none) : a ∉ as ∧ cellsAt (Ms.put m a (.lst (r.map .int))) (as ++ [a]) (rows ++ [r]) := by
  have na : a ∉ as := fun q => by
    obtain ⟨b, hb⟩ := All2.mem h a q
    rw [hn] at hb
    cases hb
  refine ⟨na, All2.append (All2.impL h fun b hb r' e => ?_) (.cons ?_ .nil)⟩
  · show (if b = a then _ else m.μ b) = _
    have nb : b ≠ a := fun q => na (q ▸ hb)
    rw [if_neg nb]
    exact e
  · show (if a = a then _ else m.μ a) = _
    rw [if_pos rfl]
/-- one cell is written anew -/
theorem put_old {m : Ms} : ∀ {as : List Addr} {rows : List (List Int)} (k : Nat) {a : Addr} (r : List Int), as.Nodup → cellsAt m as rows → as[k]? = some a → cellsAt (Ms.put m a (.lst (r.map .int))) as (rows.set k r)
  | [], _, _, _, _, _, _, h => by cases h
  | b :: as, rows, 0, a, r, hn, h0, h => by
    cases h0 with
    | cons x t =>
    obtain rfl : b = a := Option.some.inj h
    refine .cons (by show (if b = b then _ else m.μ b) = _; rw [if_pos rfl]) (All2.impL t fun c hc r' e => ?_)
    have : c ≠ b := fun q => (List.nodup_cons.mp hn).1 (q ▸ hc)
    show (if c = b then _ else m.μ c) = _
    rw [if_neg this]
    exact e
  | b :: as, rows, k + 1, a, r, hn, h0, h => by
    cases h0 with
    | cons x t =>
    have hm : a ∈ as := List.mem_of_getElem? (i := k) h
    refine .cons ?_ (put_old k r (List.nodup_cons.mp hn).2 t h)
    have : b ≠ a := fun q => (List.nodup_cons.mp hn).1 (q ▸ hm)
    show (if b = a then _ else m.μ b) = _
    rw [if_neg this]
    exact x
theorem res_ints {m : Ms} : ∀ r : List Int, ResAll m (r.map .int) (r.map .int) m
  | [] => .nil
  | i :: r => .cons .same (res_ints r)
theorem res_cells : ∀ {as : List Addr} {m : Ms} {rows : List (List Int)}, as.Nodup → cellsAt m as rows → ∃ m' : Ms, m'.d = m.d ∧ ResAll m (as.map rawA) (rows.map eI) m'
  | [], m, rows, _, h => by cases h; exact ⟨m, rfl, .nil⟩
  | a :: as, m, rows, hn, h => by
    cases h with
    | cons x t =>
    have hn' := List.nodup_cons.mp hn
    have t' : cellsAt (m.del a) as _ := All2.impL t fun c hc r' e => by
      have : c ≠ a := fun q => hn'.1 (q ▸ hc)
      show (if c = a then none else m.μ c) = _
      rw [if_neg this]
      exact e
    obtain ⟨m', hd, hr⟩ := res_cells hn'.2 t'
    exact ⟨m', hd, .cons (.cell x (res_ints _)) hr⟩
theorem res_set : ∀ {as : List Addr} {m : Ms} {rows : List (List Int)} (k : Nat) (r : List Int), as.Nodup → cellsAt m as rows → ∃ m' : Ms, m'.d = m.d ∧ ResAll m ((as.map rawA).set k (eI r)) ((rows.set k r).map eI) m'
  | [], m, rows, _, _, _, h => by cases h; exact ⟨m, rfl, .nil⟩
  | a :: as, m, rows, 0, r, hn, h => by
    cases h with
    | cons x t =>
    obtain ⟨m', hd, hr⟩ := res_cells (List.nodup_cons.mp hn).2 t
    exact ⟨m', hd, .cons .same hr⟩
  | a :: as, m, rows, k + 1, r, hn, h => by
    cases h with
    | cons x t =>
    have hn' := List.nodup_cons.mp hn
    have t' : cellsAt (m.del a) as _ := All2.impL t fun c hc r' e => by
      have : c ≠ a := fun q => hn'.1 (q ▸ hc)
      show (if c = a then none else m.μ c) = _
      rw [if_neg this]
      exact e
    obtain ⟨m', hd, hr⟩ := res_set k r hn'.2 t'
    exact ⟨m', hd, .cons (.cell x (res_ints _)) hr⟩
theorem okRows.set {many width p : Int} {rows : List (List Int)} (h : okRows many width p rows) (k : Nat) {r : List Int} (hr : (r.length : Int) = width ∧ ∀ i ∈ r, 0 ≤ i ∧ i < p) : okRows many width p (rows.set k r) := by
  refine ⟨by rw [List.length_set]; exact h.1, fun x hx => ?_⟩
  rcases List.mem_or_eq_of_mem_set hx with q | q
  · exact h.2 x q
  · rw [q]; exact hr
section
variable {P : Program} {w : World} {K : PySem.W.Frag} {mg : Str → Option Value} {base : Heap}
theorem d__law_other (T : Txt K mg) : DefOk P w K mg base RD 3 "_law_other" ["_law_state_here", "_law_rows_here", "_law_width", "_law_p"] sp__law_other := by
  refine dv__law_other T (d__law_draw T) (d__law_turned T) fun ds m Q Z hl h => ?_
  obtain ⟨s, c, rows, many, width, p, rfl, hd, hm0, hm1, hw0, hw1, hp0, hp1, hok, hq⟩ := h
  have hlen := hok.1
  walk_at "r"
  refine ⟨s, c, 4, rfl, hd, by omega, by omega, fun kind k0 k1 => ?_⟩
  walk_at "r"
  refine ⟨s, c, rows, rfl, hd, by omega, fun turned hpm => ?_⟩
  have htl := hpm.length_eq
  have hokt : okRows many width p turned := ⟨by omega, fun r hr => hok.2 r (hpm.mem_iff.mpr hr)⟩
  walk_at "r"
  refine lcD_inv eI (fun done acc (m' : Ms) => m'.d = m.d ∧ ∃ as, acc = as.map rawA ∧ as.Nodup ∧ cellsAt m' as done) turned [] [] m ⟨rfl, [], rfl, List.nodup_nil, .nil⟩ (fun r hr done acc m1 hI P hP => ?_) (by rw [List.length_nil]; exact size1000 (by omega)) fun ys m1 hI => ?_
  · obtain ⟨hd1, as, rfl, nd, hc⟩ := hI
    walk_at "r"
    intro a ha hnd
    obtain ⟨na, hc2⟩ := put_new (r := r) hc ha
    refine hP _ _ _ trivial rfl ⟨hd1, as ++ [a], by rw [List.map_append]; rfl, ?_, hc2⟩
    rw [List.nodup_append]
    refine ⟨nd, by simp, fun b hb c hc => ?_⟩
    rw [List.mem_singleton.mp hc]
    exact fun q => na (q ▸ hb)
  obtain ⟨hd1, as, rfl, nd, hc⟩ := hI
  rw [List.nil_append] at hc
  have hlen2 : as.length = turned.length := hc.length
  have hd1' : m1.d = some (s, c) := hd1.trans hd
  walk_at "r"
  refine ⟨s, c, _, rfl, hd1', by rw [List.length_map]; omega, by rw [List.length_map]; omega, fun k k0 k1 => ?_⟩
  rw [List.length_map] at k1
  obtain ⟨a, ha⟩ := get_some k0 k1
  obtain ⟨r, hr⟩ := get_some (l := turned) k0 (by omega)
  have hra := All2.get _ _ _ hc ha hr
  have hrm : r ∈ turned := List.mem_of_getElem? hr
  have hr0 := hokt.2 r hrm
  walk_at "r"
  refine ⟨_, rawA a, rfl, atI_enc k0 ha, ?_⟩
  walk_at "r"
  refine dec2 (fun e0 => ?_) (fun e0 => ?_)
  · walk_at "r"
    refine ⟨s, c, p, rfl, hd1', hp0, by omega, fun v v0 v1 => ?_⟩
    walk_at "r"
    refine ⟨s, c, width, rfl, hd1', by omega, by omega, fun x x0 x1 => ?_⟩
    walk_at "w"
    refine ⟨_, x.toNat, hra, ixN_ok x0 (by rw [List.length_map]; omega), ?_⟩
    have e5 : (r.map D.int).set x.toNat (.int v) = (r.set x.toNat v).map D.int := by rw [List.map_set]
    rw [e5]
    have hc2 := put_old k.toNat (r.set x.toNat v) nd hc ha
    obtain ⟨m', e', hr'⟩ := res_cells nd hc2
    walk_at "r"
    refine ⟨_, m', .lst hr', ?_⟩
    walk_at "r"
    refine hq _ m' (e'.trans hd1) (hokt.set _ ⟨by rw [List.length_set]; exact hr0.1, fun i hi => ?_⟩)
    rcases List.mem_or_eq_of_mem_set hi with q | q
    · exact hr0.2 i q
    · omega
  walk_at "w"
  refine dec2 (fun e1 => ?_) (fun e1 => ?_)
  · walk_at "r"
    refine ⟨⟨by omega, by omega⟩, ?_⟩
    walk_at "w"
    refine lcD_all (fun k : Nat => D.int (0 + (k : Int) * 1)) D.int (fun i => 0 ≤ i ∧ i < p) _ (fun _ ha P hP => ?_) (fun _ => trivial) (by rw [List.length_range]; exact size1000 (by omega)) fun row hrl hro => ?_
    · walk_at "r"
      exact ⟨s, c, p, rfl, hd1', by omega, by omega, fun i i0 i1 => hP i _ ⟨i0, i1⟩ rfl⟩
    rw [List.length_range] at hrl
    walk_at "r"
    refine ⟨⟨_, rfl⟩, ?_⟩
    walk_at "r"
    refine ⟨k.toNat, ixN_ok k0 (by rw [List.length_map]; omega), ?_⟩
    obtain ⟨m', e', hr'⟩ := res_set k.toNat row nd hc
    walk_at "r"
    refine ⟨_, m', .lst hr', ?_⟩
    walk_at "r"
    exact hq _ m' (e'.trans hd1) (hokt.set _ ⟨by omega, hro⟩)
  walk_at "w"
  refine dec2 (fun e2 => ?_) (fun e2 => ?_)
  · walk_at "r"
    refine ⟨s, c, _, rfl, hd1', by rw [List.length_map]; omega, by rw [List.length_map]; omega, fun j j0 j1 => ?_⟩
    rw [List.length_map] at j1
    obtain ⟨b, hb⟩ := get_some j0 j1
    obtain ⟨rb, hrb⟩ := get_some (l := turned) j0 (by omega)
    have hrab := All2.get _ _ _ hc hb hrb
    have hrmb := hokt.2 rb (List.mem_of_getElem? hrb)
    walk_at "r"
    refine ⟨_, rawA b, rfl, atI_enc j0 hb, ?_⟩
    have vw : ∀ ρ, itemsL (RD.view m1) ρ (rawA b) = some (rb.map .int) := fun ρ => by
      show Ms.view m1 b = _
      unfold Ms.view
      rw [hrab]
    walk_at "r"
    rw [vw]
    walk_at "r"
    refine ⟨⟨_, rfl⟩, ?_⟩
    walk_at "r"
    refine ⟨k.toNat, ixN_ok k0 (by rw [List.length_map]; omega), ?_⟩
    obtain ⟨m', e', hr'⟩ := res_set k.toNat rb nd hc
    walk_at "r"
    refine ⟨_, m', .lst hr', ?_⟩
    walk_at "r"
    exact hq _ m' (e'.trans hd1) (hokt.set _ hrmb)
  · walk_at "r"
    refine lcD_inv eI (fun done acc (m' : Ms) => m'.d = m.d ∧ ∃ as news, acc = as.map rawA ∧ as.Nodup ∧ cellsAt m' as news ∧ news.length = done.length ∧ ∀ r ∈ news, (r.length : Int) = width ∧ ∀ i ∈ r, 0 ≤ i ∧ i < p) rows [] [] m1 ⟨hd1, [], [], rfl, List.nodup_nil, .nil, rfl, fun _ h => nomatch h⟩ (fun r0 hr0 done acc m2 hI P hP => ?_) (by rw [List.length_nil]; exact size1000 (by omega)) fun ys m2 hI => ?_
    · obtain ⟨hd2, as2, news, rfl, nd2, hc2, hn2, ho2⟩ := hI
      have hd2' : m2.d = some (s, c) := hd2.trans hd
      walk_at "r"
      refine ⟨⟨by omega, by omega⟩, ?_⟩
      walk_at "w"
      refine lcD_all (fun k : Nat => D.int (0 + (k : Int) * 1)) D.int (fun i => 0 ≤ i ∧ i < p) _ (fun _ ha P hP => ?_) (fun _ => trivial) (by rw [List.length_range]; exact size1000 (by omega)) fun row hrl hro => ?_
      · walk_at "r"
        exact ⟨s, c, p, rfl, hd2', by omega, by omega, fun i i0 i1 => hP i _ ⟨i0, i1⟩ rfl⟩
      rw [List.length_range] at hrl
      walk_at "r"
      intro a2 ha2 hnd
      obtain ⟨na, hc3⟩ := put_new (r := row) hc2 ha2
      refine hP _ _ _ trivial rfl ⟨hd2, as2 ++ [a2], news ++ [row], by rw [List.map_append]; rfl, ?_, hc3, by rw [List.length_append, List.length_append, hn2]; rfl, fun x hx => ?_⟩
      · rw [List.nodup_append]
        refine ⟨nd2, by simp, fun b hb c hc => ?_⟩
        rw [List.mem_singleton.mp hc]
        exact fun q => na (q ▸ hb)
      · rcases List.mem_append.mp hx with hx | hx
        · exact ho2 x hx
        · rw [List.mem_singleton.mp hx]
          exact ⟨by omega, hro⟩
    obtain ⟨hd2, as2, news, rfl, nd2, hc2, hn2, ho2⟩ := hI
    rw [List.nil_append] at hn2
    obtain ⟨m', e', hr'⟩ := res_cells nd2 hc2
    walk_at "r"
    refine ⟨_, m', .lst hr', ?_⟩
    walk_at "r"
    exact hq _ m' (e'.trans hd2) ⟨by omega, ho2⟩
end
end G77

namespace B77
open PL (markS prodS)
/-! Roots modulo a prime, by divided differences. -/
section
variable {p : Int}
/-- a function that is a polynomial with n coefficients, modulo p -/
def P (p : Int) : Nat → (Int → Int) → Prop
  | 0, f => ∀ x, p ∣ f x
  | n + 1, f => ∀ r, ∃ g, P p n g ∧ ∀ x, p ∣ f x - f r - (x - r) * g x
theorem P.add : ∀ {n : Nat} {f h : Int → Int}, P p n f → P p n h → P p n fun x => f x + h x
  | 0, f, h, a, b => fun x => Int.dvd_add (a x) (b x)
  | n + 1, f, h, a, b => fun r => by
    obtain ⟨g, hg, e⟩ := a r
    obtain ⟨g', hg', e'⟩ := b r
    refine ⟨_, hg.add hg', fun x => ?_⟩
    have := Int.dvd_add (e x) (e' x)
    rw [show f x + h x - (f r + h r) - (x - r) * (g x + g' x) = f x - f r - (x - r) * g x + (h x - h r - (x - r) * g' x) by grind]
    exact this
theorem P.smul (c : Int) : ∀ {n : Nat} {f : Int → Int}, P p n f → P p n fun x => c * f x
  | 0, f, a => fun x => Int.dvd_mul_of_dvd_right (a x)
  | n + 1, f, a => fun r => by
    obtain ⟨g, hg, e⟩ := a r
    refine ⟨_, hg.smul c, fun x => ?_⟩
    rw [show c * f x - c * f r - (x - r) * (c * g x) = c * (f x - f r - (x - r) * g x) by grind]
    exact Int.dvd_mul_of_dvd_right (e x)
theorem P.zero : ∀ (n : Nat), P p n fun _ => 0
  | 0 => fun _ => Int.dvd_zero p
  | n + 1 => fun r => ⟨_, P.zero n, fun x => by rw [show (0 : Int) - 0 - (x - r) * 0 = 0 by grind]; exact Int.dvd_zero p⟩
theorem P.up : ∀ {n : Nat} {f : Int → Int}, P p n f → P p (n + 1) f
  | 0, f, a => fun r => ⟨_, P.zero 0, fun x => by
      rw [show f x - f r - (x - r) * 0 = f x - f r by grind]
      exact Int.dvd_sub (a x) (a r)⟩
  | n + 1, f, a => fun r => by
    obtain ⟨g, hg, e⟩ := a r
    exact ⟨g, hg.up, e⟩
theorem P.const (c : Int) : P p 1 fun _ => c := fun r => ⟨_, P.zero 0, fun x => by
  rw [show c - c - (x - r) * 0 = 0 by grind]; exact Int.dvd_zero p⟩
theorem P.lin (a : Int) : ∀ {n : Nat} {f : Int → Int}, P p n f → P p (n + 1) fun x => (x - a) * f x
  | 0, f, h => fun r => ⟨f, h, fun x => by
      have e1 : p ∣ (r - a) * (f x - f r) := Int.dvd_mul_of_dvd_right (Int.dvd_sub (h x) (h r))
      rw [show (x - a) * f x - (r - a) * f r - (x - r) * f x = (r - a) * (f x - f r) by grind]
      exact e1⟩
  | n + 1, f, h => fun r => by
    obtain ⟨g, hg, e⟩ := h r
    refine ⟨_, h.add (hg.up.smul (r - a)), fun x => ?_⟩
    rw [show (x - a) * f x - (r - a) * f r - (x - r) * (f x + (r - a) * g x) = (r - a) * (f x - f r - (x - r) * g x) by grind]
    exact Int.dvd_mul_of_dvd_right (e x)
theorem P.congr {n : Nat} {f h : Int → Int} (e : ∀ x, f x = h x) (a : P p n f) : P p n h := by
  rw [← funext e]; exact a
def Pr (p : Int) : Prop := 2 ≤ p ∧ ∀ a b : Int, p ∣ a * b → p ∣ a ∨ p ∣ b
/-- pairwise different modulo p -/
def Apart (p : Int) (xs : List Int) : Prop := xs.Pairwise fun x y => ¬ p ∣ x - y
theorem roots (hp : Pr p) : ∀ (n : Nat) (f : Int → Int) (xs : List Int), P p n f → Apart p xs → (∀ x ∈ xs, p ∣ f x) → (∃ y, ¬ p ∣ f y) → xs.length + 1 ≤ n
  | 0, f, xs, h, _, _, hy => by obtain ⟨y, hy⟩ := hy; exact absurd (h y) hy
  | n + 1, f, [], _, _, _, _ => by rw [List.length_nil]; omega
  | n + 1, f, r :: xs, h, ha, hr, hy => by
    obtain ⟨g, hg, e⟩ := h r
    obtain ⟨y, hy⟩ := hy
    have ha' := List.pairwise_cons.mp ha
    have fr := hr r (List.mem_cons_self ..)
    have step : ∀ x, p ∣ f x → p ∣ (x - r) * g x := fun x hx => by
      have := Int.dvd_sub (Int.dvd_sub hx fr) (e x)
      rw [show f x - f r - (f x - f r - (x - r) * g x) = (x - r) * g x by grind] at this
      exact this
    have := roots hp n g xs hg ha'.2 (fun x hx => ((hp.2 _ _ (step x (hr x (List.mem_cons_of_mem _ hx)))).resolve_left fun q => ha'.1 x hx (by
        have := Int.dvd_neg.mpr q
        rw [show -(x - r) = r - x by grind] at this
        exact this))) ⟨y, fun q => hy (by
        have h1 := Int.dvd_add (Int.dvd_add (e y) (Int.dvd_mul_of_dvd_right (b := y - r) q)) fr
        rw [show f y - f r - (y - r) * g y + (y - r) * g y + f r = f y by grind] at h1
        exact h1)⟩
    rw [List.length_cons]
    omega
theorem P.mark : ∀ row : List Int, P p row.length fun s => markS s row
  | [] => fun _ => Int.dvd_zero p
  | n :: r => by
    have h1 := (P.mark r).lin 0
    cases r with
    | nil => exact P.congr (fun x => by simp [markS]) (P.const n)
    | cons m r =>
      have hc : ∀ k, P p (k + 1) fun _ => n := fun k => by
        induction k with
        | zero => exact P.const n
        | succ k ih => exact ih.up
      exact P.congr (fun x => by show n + (x - 0) * markS x (m :: r) = markS x (n :: m :: r); rw [Int.sub_zero]; rfl) ((hc _).add h1)
/-- a product of k factors t - a: t^k and a rest with k coefficients -/
theorem P.pow : ∀ k : Nat, P p (k + 1) fun t => t ^ k
  | 0 => P.congr (fun x => by rw [Int.pow_zero]) (P.const 1)
  | k + 1 => P.congr (fun x => by rw [Int.pow_succ]; grind) ((P.pow k).lin 0)
theorem P.prod (s : Int) : ∀ rows : List (List Int), P p rows.length fun t => prodS s t rows - t ^ rows.length
  | [] => fun x => by
    show p ∣ 1 - x ^ 0
    rw [Int.pow_zero]
    exact Int.dvd_zero p
  | r :: rows => by
    have h1 := (P.prod s rows).lin (markS s r)
    have h2 := (P.pow (p := p) rows.length).smul (-markS s r)
    refine P.congr (fun t => ?_) (h1.add h2)
    show (t - markS s r) * (prodS s t rows - t ^ rows.length) + -markS s r * t ^ rows.length = (t - markS s r) * prodS s t rows - t ^ (rows.length + 1)
    rw [Int.pow_succ]
    grind
theorem P.diff (s : Int) {A B : List (List Int)} (h : A.length = B.length) : P p A.length fun t => prodS s t A - prodS s t B := by
  have h1 := P.prod (p := p) s A
  have h2 := (P.prod (p := p) s B).smul (-1)
  rw [← h] at h2
  exact P.congr (fun t => by show prodS s t A - t ^ A.length + -1 * (prodS s t B - t ^ A.length) = _; grind) (h1.add h2)
theorem apart_range (q : Nat → Bool) : Apart p (((List.range p.toNat).filter q).map fun k : Nat => (k : Int)) := by
  unfold Apart
  rw [List.pairwise_map]
  have h1 : ((List.range p.toNat).filter q).Pairwise (· < ·) := List.Pairwise.sublist List.filter_sublist List.pairwise_lt_range
  refine List.Pairwise.imp_of_mem (fun {a b} ha hb hab => ?_) h1
  have hb' := List.mem_range.mp (List.mem_filter.mp hb).1
  intro hd
  obtain ⟨c, hc⟩ := hd
  have h2 : 0 < (b : Int) - a := by omega
  have h3 : (b : Int) - a < p := by omega
  have h4 : p * (-c) = (b : Int) - a := by rw [Int.mul_neg, ← hc]; omega
  rcases Int.lt_trichotomy (-c) 0 with h | h | h
  · have : p * (-c) ≤ 0 := Int.mul_nonpos_of_nonneg_of_nonpos (by omega) (by omega)
    omega
  · rw [h] at h4; omega
  · have : p * 1 ≤ p * (-c) := Int.mul_le_mul_of_nonneg_left (by omega) (by omega)
    omega
theorem count_roots (hp : Pr p) {n : Nat} {f : Int → Int} (h : P p n f) (hy : ∃ y, ¬ p ∣ f y) : ((List.range p.toNat).filter fun k : Nat => decide (p ∣ f (k : Int))).length + 1 ≤ n := by
  have := roots hp n f _ h (apart_range fun k : Nat => decide (p ∣ f (k : Int))) (fun x hx => by
    obtain ⟨k, hk, rfl⟩ := List.mem_map.mp hx
    simpa using (List.mem_filter.mp hk).2) hy
  rwa [List.length_map] at this
theorem filter_or {α : Type} (f g : α → Bool) : ∀ l : List α, (l.filter fun x => f x || g x).length ≤ (l.filter f).length + (l.filter g).length
  | [] => by simp
  | a :: l => by
    have ih := filter_or f g l
    by_cases h1 : f a = true <;> by_cases h2 : g a = true <;> simp [List.filter_cons, h1, h2] <;> omega
theorem filter_any {α β : Type} (g : α → β → Bool) (c : Nat) (l : List α) : ∀ B : List β, (∀ b ∈ B, (l.filter fun x => g x b).length ≤ c) → (l.filter fun x => B.any (g x)).length ≤ B.length * c
  | [], _ => by simp
  | b :: B, h => by
    have h1 := filter_or (fun x => g x b) (fun x => B.any (g x)) l
    have h2 := filter_any g c l B fun b hb => h b (List.mem_cons_of_mem _ hb)
    have h3 := h b (List.mem_cons_self ..)
    simp only [List.any_cons]
    rw [List.length_cons, Nat.add_mul]
    omega
theorem filter_imp {α : Type} (f g : α → Bool) (l : List α) (h : ∀ x ∈ l, f x = true → g x = true) : (l.filter f).length ≤ (l.filter g).length := by
  induction l with
  | nil => simp
  | cons a l ih =>
    have ih := ih fun x hx => h x (List.mem_cons_of_mem _ hx)
    have ha := h a (List.mem_cons_self ..)
    by_cases h1 : f a = true
    · simp [List.filter_cons, h1, ha h1]; omega
    · by_cases h2 : g a = true <;> simp [List.filter_cons, h1, h2] <;> omega
theorem sum_bound (f : Nat → Nat) (bad : Nat → Bool) (q r : Nat) : ∀ l : List Nat, (∀ s ∈ l, bad s = false → f s ≤ q) → (∀ s ∈ l, f s ≤ r) → (l.map f).sum ≤ l.length * q + r * (l.filter bad).length
  | [], _, _ => by simp
  | s :: l, h1, h2 => by
    have ih := sum_bound f bad q r l (fun s hs => h1 s (List.mem_cons_of_mem _ hs)) fun s hs => h2 s (List.mem_cons_of_mem _ hs)
    have a1 := h1 s (List.mem_cons_self ..)
    have a2 := h2 s (List.mem_cons_self ..)
    rw [List.map_cons, List.sum_cons, List.length_cons, Nat.add_mul]
    cases hb : bad s with
    | false =>
      rw [List.filter_cons_of_neg (by rw [hb]; decide)]
      have := a1 hb
      omega
    | true =>
      rw [List.filter_cons_of_pos hb, List.length_cons, Nat.mul_add]
      omega
theorem split : ∀ rows others : List (List Int), ∃ C A B, List.Perm rows (C ++ A) ∧ List.Perm others (C ++ B) ∧ ∀ a ∈ A, a ∉ B
  | [], others => ⟨[], [], others, List.Perm.refl _, List.Perm.refl _, fun _ h => nomatch h⟩
  | r :: rows, others => by
    by_cases h : r ∈ others
    · obtain ⟨C, A, B, h1, h2, h3⟩ := split rows (others.erase r)
      exact ⟨r :: C, A, B, h1.cons r, (List.perm_cons_erase h).trans (h2.cons r), h3⟩
    · obtain ⟨C, A, B, h1, h2, h3⟩ := split rows others
      refine ⟨C, r :: A, B, (h1.cons r).trans List.perm_middle.symm, h2, fun a ha => ?_⟩
      rcases List.mem_cons.mp ha with e | ha
      · rw [e]
        exact fun q => h (h2.mem_iff.mpr (List.mem_append_right _ q))
      · exact h3 a ha
theorem prodS_app (s t : Int) : ∀ a b : List (List Int), prodS s t (a ++ b) = prodS s t a * prodS s t b
  | [], b => by rw [List.nil_append, prodS, Int.one_mul]
  | r :: a, b => by rw [List.cons_append, prodS, prodS, prodS_app s t a b, Int.mul_assoc]
theorem prod_zero (s : Int) {a : List Int} : ∀ A : List (List Int), a ∈ A → prodS s (markS s a) A = 0
  | b :: A, h => by
    rw [prodS]
    rcases List.mem_cons.mp h with e | h
    · rw [e, Int.sub_self, Int.zero_mul]
    · rw [prod_zero s A h, Int.mul_zero]
theorem prod_non (hp : Pr p) (s t : Int) : ∀ B : List (List Int), (∀ b ∈ B, ¬ p ∣ t - markS s b) → ¬ p ∣ prodS s t B
  | [], _ => fun q => by
    have q' : p ∣ 1 := q
    have := Int.le_of_dvd (by decide) q'
    have h2 := hp.1
    omega
  | b :: B, h => fun q => by
    rw [prodS] at q
    rcases hp.2 _ _ q with q | q
    · exact h b (List.mem_cons_self ..) q
    · exact prod_non hp s t B (fun b hb => h b (List.mem_cons_of_mem _ hb)) q
theorem prod_roots (hp : Pr p) (s : Int) : ∀ C : List (List Int), ((List.range p.toNat).filter fun k : Nat => decide (p ∣ prodS s (k : Int) C)).length ≤ C.length
  | [] => by
    rw [List.length_nil]
    refine Nat.le_of_eq (List.length_eq_zero_iff.mpr (List.filter_eq_nil_iff.mpr fun k _ => ?_))
    have := prod_non hp s k [] (fun _ h => nomatch h)
    simpa using this
  | c :: C => by
    have h1 := filter_or (fun k : Nat => decide (p ∣ (k : Int) - markS s c)) (fun k : Nat => decide (p ∣ prodS s (k : Int) C)) (List.range p.toNat)
    have h2 := prod_roots hp s C
    have h3 := count_roots hp (P.lin (p := p) (markS s c) (P.const 1)) ⟨markS s c + 1, fun q => by
      have e : (markS s c + 1 - markS s c) * 1 = 1 := by omega
      rw [e] at q
      have := Int.le_of_dvd (by decide) q
      have := hp.1
      omega⟩
    have h4 := filter_imp (fun k : Nat => decide (p ∣ prodS s (k : Int) (c :: C))) (fun k : Nat => decide (p ∣ (k : Int) - markS s c) || decide (p ∣ prodS s (k : Int) C)) (List.range p.toNat) fun k _ hk => by
      simp only [decide_eq_true_eq, Bool.or_eq_true] at hk ⊢
      rw [prodS] at hk
      exact hp.2 _ _ hk
    simp only [Int.mul_one] at h3
    rw [List.length_cons]
    omega
theorem eq_of_mod {a b : Int} (ha : 0 ≤ a ∧ a < p) (hb : 0 ≤ b ∧ b < p) (h : p ∣ b - a) : b = a := by
  obtain ⟨c, hc⟩ := h
  rcases Int.lt_trichotomy c 0 with h | h | h
  · have : p * c ≤ p * (-1) := Int.mul_le_mul_of_nonneg_left (by omega) (by omega)
    omega
  · rw [h] at hc; omega
  · have : p * 1 ≤ p * c := Int.mul_le_mul_of_nonneg_left (by omega) (by omega)
    omega
theorem row_roots (hp : Pr p) {w : Nat} {a b : List Int} (ha : a.length = w) (hb : b.length = w) (h1 : 1 ≤ w) (h3 : w ≤ 3) (ra : ∀ i ∈ a, 0 ≤ i ∧ i < p) (rb : ∀ i ∈ b, 0 ≤ i ∧ i < p) (hne : b ≠ a) :
    ((List.range p.toNat).filter fun k : Nat => decide (p ∣ markS (k : Int) b - markS (k : Int) a)).length ≤ w - 1 := by
  have hP : P p w fun s => markS s b - markS s a := by
    have x1 := P.mark (p := p) b
    have x2 := (P.mark (p := p) a).smul (-1)
    rw [hb] at x1
    rw [ha] at x2
    exact P.congr (fun x => by show markS x b + -1 * markS x a = _; grind) (x1.add x2)
  by_cases hy : ∃ y, ¬ p ∣ markS y b - markS y a
  · have := count_roots hp hP hy
    omega
  · have hall : ∀ y, p ∣ markS y b - markS y a := fun y => Decidable.byContradiction fun q => hy ⟨y, q⟩
    have z0 := hall 0
    have z1 := hall 1
    have z2 := hall (-1)
    match w, a, b, ha, hb with
    | 1, [a0], [b0], _, _ =>
      have := eq_of_mod (ra a0 (by simp)) (rb b0 (by simp)) (by simpa [markS] using z0)
      exact absurd (by rw [this]) hne
    | 2, [a0, a1], [b0, b1], _, _ =>
      have e0 := eq_of_mod (ra a0 (by simp)) (rb b0 (by simp)) (by simpa [markS] using z0)
      subst e0
      have e1 := eq_of_mod (ra a1 (by simp)) (rb b1 (by simp)) (by
        have : markS 1 [b0, b1] - markS 1 [b0, a1] = b1 - a1 := by simp [markS]; omega
        rwa [this] at z1)
      exact absurd (by rw [e1]) hne
    | 3, [a0, a1, a2], [b0, b1, b2], _, _ =>
      have e0 := eq_of_mod (ra a0 (by simp)) (rb b0 (by simp)) (by simpa [markS] using z0)
      subst e0
      have y1 : p ∣ (b1 - a1) + (b2 - a2) := by
        have : markS 1 [b0, b1, b2] - markS 1 [b0, a1, a2] = (b1 - a1) + (b2 - a2) := by simp [markS]; omega
        rwa [this] at z1
      have y2 : p ∣ (b2 - a2) - (b1 - a1) := by
        have : markS (-1) [b0, b1, b2] - markS (-1) [b0, a1, a2] = (b2 - a2) - (b1 - a1) := by simp [markS]; omega
        rwa [this] at z2
      have y3 : p ∣ 2 * (b2 - a2) := by
        have := Int.dvd_add y1 y2
        rw [show (b1 - a1) + (b2 - a2) + ((b2 - a2) - (b1 - a1)) = 2 * (b2 - a2) by omega] at this
        exact this
      rcases hp.2 _ _ y3 with q | q
      · have := Int.le_of_dvd (by decide) q
        have h2 := hp.1
        have e : p = 2 := by omega
        have hl := List.length_filter_le (fun k : Nat => decide (p ∣ markS (k : Int) [b0, b1, b2] - markS (k : Int) [b0, a1, a2])) (List.range p.toNat)
        rw [List.length_range] at hl
        omega
      · have e2 := eq_of_mod (ra a2 (by simp)) (rb b2 (by simp)) q
        have e1 := eq_of_mod (ra a1 (by simp)) (rb b1 (by simp)) (by
          have := Int.dvd_sub y1 q
          rw [show (b1 - a1) + (b2 - a2) - (b2 - a2) = b1 - a1 by omega] at this
          exact this)
        exact absurd (by rw [e1, e2]) hne
/-- at most this many pairs of throws let a false claim be believed -/
theorem same_bound (hp : Pr p) {w : Nat} {rows others : List (List Int)} (h1 : 1 ≤ w) (h3 : w ≤ 3) (hl : rows.length = others.length) (hr : ∀ r ∈ rows, r.length = w ∧ ∀ i ∈ r, 0 ≤ i ∧ i < p) (ho : ∀ r ∈ others, r.length = w ∧ ∀ i ∈ r, 0 ≤ i ∧ i < p) (hne : ¬ List.Perm rows others) :
    ((List.range p.toNat).map fun s : Nat => ((List.range p.toNat).filter fun t : Nat => decide (p ∣ prodS (s : Int) (t : Int) rows - prodS (s : Int) (t : Int) others)).length).sum ≤ p.toNat * (rows.length * w) := by
  obtain ⟨C, A, B, pr, po, hd⟩ := split rows others
  have lA : rows.length = C.length + A.length := by rw [pr.length_eq, List.length_append]
  have lB : others.length = C.length + B.length := by rw [po.length_eq, List.length_append]
  have hAB : A.length = B.length := by omega
  cases A with
  | nil =>
    have : B = [] := List.length_eq_zero_iff.mp (by rw [← hAB]; rfl)
    subst this
    exact absurd (pr.trans po.symm) hne
  | cons a A' =>
  have haR := hr a (pr.mem_iff.mpr (List.mem_append_right _ (List.mem_cons_self ..)))
  let bad : Nat → Bool := fun s => B.any fun b => decide (p ∣ markS (s : Int) b - markS (s : Int) a)
  have hbad : ((List.range p.toNat).filter bad).length ≤ B.length * (w - 1) := filter_any (fun (s : Nat) b => decide (p ∣ markS (s : Int) b - markS (s : Int) a)) (w - 1) _ B fun b hb => by
    have hbR := ho b (po.mem_iff.mpr (List.mem_append_right _ hb))
    refine row_roots hp haR.1 hbR.1 h1 h3 haR.2 hbR.2 fun q => ?_
    exact hd a (List.mem_cons_self ..) (q ▸ hb)
  have hsum := sum_bound (fun s : Nat => ((List.range p.toNat).filter fun t : Nat => decide (p ∣ prodS (s : Int) (t : Int) rows - prodS (s : Int) (t : Int) others)).length) bad (C.length + A'.length) p.toNat (List.range p.toNat) (fun s _ hs => ?_) (fun s _ => by
    have := List.length_filter_le (fun t : Nat => decide (p ∣ prodS (s : Int) (t : Int) rows - prodS (s : Int) (t : Int) others)) (List.range p.toNat)
    rwa [List.length_range] at this)
  · rw [List.length_range] at hsum
    refine Nat.le_trans hsum ?_
    have hm : p.toNat * ((List.range p.toNat).filter bad).length ≤ p.toNat * (B.length * (w - 1)) := Nat.mul_le_mul_left _ hbad
    refine Nat.le_trans (Nat.add_le_add_left hm _) ?_
    rw [← Nat.mul_add]
    refine Nat.mul_le_mul_left _ ?_
    rw [← hAB, lA]
    obtain ⟨v, rfl⟩ : ∃ v, w = v + 1 := ⟨w - 1, by omega⟩
    rw [Nat.add_sub_cancel, List.length_cons]
    have e : (C.length + (A'.length + 1)) * (v + 1) = C.length * (v + 1) + ((A'.length + 1) * v + A'.length + 1) := by grind
    rw [e]
    have : C.length * 1 ≤ C.length * (v + 1) := Nat.mul_le_mul_left _ (by omega)
    omega
  · have hgood : ∀ b ∈ B, ¬ p ∣ markS (s : Int) a - markS (s : Int) b := fun b hb q => by
      have h := List.any_eq_false.mp hs b hb
      refine h (decide_eq_true ?_)
      have := Int.dvd_neg.mpr q
      rw [show -(markS (s : Int) a - markS (s : Int) b) = markS (s : Int) b - markS (s : Int) a by omega] at this
      exact this
    have c1 := prod_roots hp (s : Int) C
    have c2 := count_roots hp (P.diff (p := p) (s : Int) hAB) ⟨markS (s : Int) a, fun q => by
      rw [prod_zero (s : Int) (a :: A') (List.mem_cons_self ..)] at q
      refine prod_non hp (s : Int) _ B hgood ?_
      have := Int.dvd_neg.mpr q
      rw [show -(0 - prodS (s : Int) (markS (s : Int) a) B) = prodS (s : Int) (markS (s : Int) a) B by omega] at this
      exact this⟩
    have c3 := filter_or (fun t : Nat => decide (p ∣ prodS (s : Int) (t : Int) C)) (fun t : Nat => decide (p ∣ prodS (s : Int) (t : Int) (a :: A') - prodS (s : Int) (t : Int) B)) (List.range p.toNat)
    have c4 := filter_imp (fun t : Nat => decide (p ∣ prodS (s : Int) (t : Int) rows - prodS (s : Int) (t : Int) others)) (fun t : Nat => decide (p ∣ prodS (s : Int) (t : Int) C) || decide (p ∣ prodS (s : Int) (t : Int) (a :: A') - prodS (s : Int) (t : Int) B)) (List.range p.toNat) fun t _ ht => by
      simp only [decide_eq_true_eq, Bool.or_eq_true] at ht ⊢
      rw [PL.prodS_perm pr, PL.prodS_perm po, prodS_app, prodS_app, ← Int.mul_sub] at ht
      exact hp.2 _ _ ht
    rw [List.length_cons] at c2
    omega
abbrev cn (rows : List (List Int)) (r : List Int) : Nat := (rows.filter fun o => decide (o = r)).length
/-- two different bags with the same marks: a row that comes oftener has one of the same mark on the other side -/
theorem blame_ex {rows others : List (List Int)} {mk : List Int → Int} (hl : rows.length = others.length) (hne : ¬ List.Perm rows others) (hm : List.Perm (rows.map mk) (others.map mk)) :
    ∃ r ∈ rows, cn others r < cn rows r ∧ ∃ o ∈ others, o ≠ r ∧ mk o = mk r := by
  obtain ⟨C, A, B, pr, po, hd⟩ := split rows others
  have lA : rows.length = C.length + A.length := by rw [pr.length_eq, List.length_append]
  have lB : others.length = C.length + B.length := by rw [po.length_eq, List.length_append]
  cases A with
  | nil =>
    have : B = [] := List.length_eq_zero_iff.mp (by rw [List.length_nil] at lA; omega)
    subst this
    exact absurd (pr.trans po.symm) hne
  | cons a A' =>
    have naB := hd a (List.mem_cons_self ..)
    refine ⟨a, pr.mem_iff.mpr (List.mem_append_right _ (List.mem_cons_self ..)), ?_, ?_⟩
    · have e1 : cn rows a = cn (C ++ a :: A') a := (pr.filter _).length_eq
      have e2 : cn others a = cn (C ++ B) a := (po.filter _).length_eq
      have e3 : (B.filter fun o => decide (o = a)) = [] := List.filter_eq_nil_iff.mpr fun b hb q => naB ((of_decide_eq_true q) ▸ hb)
      rw [e1, e2]
      unfold cn
      rw [List.filter_append, List.filter_append, List.length_append, List.length_append, e3, List.filter_cons_of_pos (by simp), List.length_cons, List.length_nil]
      omega
    · have q := ((pr.map mk).symm.trans hm).trans (po.map mk)
      rw [List.map_append, List.map_append, List.perm_append_left_iff] at q
      have hma : mk a ∈ B.map mk := q.mem_iff.mp (List.mem_map_of_mem (List.mem_cons_self ..))
      obtain ⟨b, hb, e⟩ := List.mem_map.mp hma
      exact ⟨b, po.mem_iff.mpr (List.mem_append_right _ hb), fun q => naB (q ▸ hb), e⟩
end
end B77

namespace G77
open PySem L2 DL PL
local macro_rules | `(tactic| walk_at "w") => `(tactic| (conv => whnf))
local macro_rules | `(tactic| walk_at "s") => `(tactic| ((conv => whnf); first
  | refine And.intro trivial ?_ | refine And.intro (And.intro trivial trivial) ?_ | refine And.intro (And.intro trivial (And.intro trivial trivial)) ?_ | refine And.intro (And.intro trivial (And.intro trivial (And.intro trivial trivial))) ?_ | refine And.intro (And.intro trivial (And.intro trivial (And.intro trivial (And.intro trivial trivial)))) ?_ | refine And.intro (And.intro trivial (And.intro trivial (And.intro trivial (And.intro trivial (And.intro trivial trivial))))) ?_ | refine And.intro (And.intro trivial (And.intro trivial (And.intro trivial (And.intro trivial (And.intro trivial (And.intro trivial trivial)))))) ?_ | refine And.intro (And.intro trivial (And.intro trivial (And.intro trivial (And.intro trivial (And.intro trivial (And.intro trivial (And.intro trivial trivial))))))) ?_ | refine And.intro (And.intro trivial (And.intro trivial (And.intro trivial (And.intro trivial (And.intro trivial (And.intro trivial (And.intro trivial (And.intro trivial trivial)))))))) ?_ | refine And.intro (And.intro trivial (And.intro trivial (And.intro trivial (And.intro trivial (And.intro trivial (And.intro trivial (And.intro trivial (And.intro trivial (And.intro trivial trivial))))))))) ?_ | refine And.intro (And.intro trivial (And.intro trivial (And.intro trivial (And.intro trivial (And.intro trivial (And.intro trivial (And.intro trivial (And.intro trivial (And.intro trivial (And.intro trivial trivial)))))))))) ?_
  | refine And.intro (fun (_ : true = true) => ?_) (fun (q : true = false) => Bool.noConfusion q) | refine And.intro (fun (q : false = true) => Bool.noConfusion q) (fun (_ : false = false) => ?_) | refine And.intro rfl ?_
  | refine And.intro (by show (0 : Int) < _; omega) ?_ | refine And.intro (Or.inl (And.intro (by omega) (by omega))) ?_ | refine And.intro (Or.inr (And.intro (by omega) (by omega))) ?_ | refine And.intro (And.intro (by decide) (by decide)) ?_ | refine And.intro (DL.size1000 (Nat.le_of_ble_eq_true rfl)) ?_))
local macro_rules | `(tactic| walk_at "r") => `(tactic| ((repeat walk_at "s"); try walk_at "w"))
local macro_rules | `(tactic| walk_at "eqI") => `(tactic| (refine And.intro (pl_eI _) (And.intro (pl_eI _) (And.intro (shaped_eI _) (And.intro (shaped_eI _) ?_))); rw [eqv_flat_eI]))
local macro_rules | `(tactic| walk_at "eqII") => `(tactic| (refine And.intro (pl_eII _) (And.intro (pl_eII _) (And.intro (shaped_eII _) (And.intro (shaped_eII _) ?_))); rw [eqv_flat_eII]))
/-! ### sorted numbers, equal when the bags are -/
abbrev leI (a b : Int) : Bool := decide (a ≤ b)
theorem leD_int (a b : Int) : leD (.int a) (.int b) = leI a b := by
  have := congrFun (congrFun (PySem.W.dataLe_int (fun x : Int => x)) a) b
  rw [PySem.W.dataLe_eq] at this
  show PySem.W.dataLe false D.toP (.int a) (.int b) = _
  rw [PySem.W.dataLe_eq]
  exact this
theorem sort_eI (l : List Int) : (l.map D.int).mergeSort leD = (l.mergeSort leI).map D.int :=
  (PySem.W.sort_maps (r := leI) (s := leD) D.int fun a _ b _ => (leD_int a b).symm).symm
theorem toP_int (a : Int) : (D.int a).toP = .int a := by simp only [D.toP]
theorem alike_nums (l : List Int) : PySem.W.AllAlike ((l.map D.int).map D.toP) := by
  rw [List.map_map]
  refine PySem.W.AllAlike.of fun a b => ?_
  show PySem.W.alike (D.int a).toP (D.int b).toP = true
  rw [toP_int, toP_int]
  simp only [PySem.W.alike]
theorem sortable_nums (l : List Int) : PySem.W.Sortable ((l.map D.int).map D.toP) := by
  rw [List.map_map]
  refine PySem.W.Sortable.others fun a => ?_
  show (D.int a).toP ≠ .none ∧ ∀ xs, (D.int a).toP ≠ .tuple xs
  rw [toP_int]
  refine ⟨?_, fun _ q => ?_⟩
  · exact fun q => nomatch q
  · exact nomatch q
theorem depth_nums (l : List Int) : ∀ d ∈ l.map D.int, d.toP.depth ≤ 60 := fun d hd => by
  obtain ⟨a, _, rfl⟩ := List.mem_map.mp hd
  rw [toP_int, depth_int]
  decide
theorem pls_nums (l : List Int) : pls (l.map D.int) = true := pl_eI l
theorem sort_eq {α : Type} {le : α → α → Bool} (tr : ∀ a b c, le a b = true → le b c = true → le a c = true) (to : ∀ a b, (le a b || le b a) = true) (an : ∀ a b, le a b = true → le b a = true → a = b) (a b : List α) : a.mergeSort le = b.mergeSort le ↔ List.Perm a b := by
  constructor
  · intro h
    exact ((List.mergeSort_perm a le).symm.trans (h ▸ List.Perm.refl _)).trans (List.mergeSort_perm b le)
  · intro h
    exact List.Perm.eq_of_pairwise (le := fun x y => le x y = true) (fun x y _ _ h1 h2 => an x y h1 h2) (List.pairwise_mergeSort tr to a) (List.pairwise_mergeSort tr to b) (((List.mergeSort_perm a le).trans h).trans (List.mergeSort_perm b le).symm)
theorem sort_rows (a b : List (List Int)) : a.mergeSort leRow = b.mergeSort leRow ↔ List.Perm a b :=
  sort_eq (fun a b c h1 h2 => by simp only [leRow, decide_eq_true_eq] at *; exact List.le_trans h1 h2) (fun a b => by simpa [Bool.or_eq_true] using leRow_total a b) (fun a b h1 h2 => by simp only [leRow, decide_eq_true_eq] at *; exact List.le_antisymm h1 h2) a b
theorem sort_nums (a b : List Int) : a.mergeSort leI = b.mergeSort leI ↔ List.Perm a b :=
  sort_eq (fun a b c h1 h2 => by simp only [leI, decide_eq_true_eq] at *; omega) (fun a b => by simp [leI]; omega) (fun a b h1 h2 => by simp only [leI, decide_eq_true_eq] at *; omega) a b
theorem dec_rows (a b : List (List Int)) : decide (a.mergeSort leRow = b.mergeSort leRow) = decide (List.Perm a b) := by
  congr 1
  rw [eq_iff_iff]
  exact sort_rows a b
theorem dec_nums (a b : List Int) : decide (a.mergeSort leI = b.mergeSort leI) = decide (List.Perm a b) := by
  congr 1
  rw [eq_iff_iff]
  exact sort_nums a b
/-! ### what is blamed, plain -/
abbrev mk (s p : Int) (r : List Int) : Int := markS s r % p
def firstBad (s p : Int) (rows others : List (List Int)) (l : List (List Int)) : Option (List Int × List Int) :=
  l.findSome? fun r => if B77.cn others r < B77.cn rows r then (others.find? fun o => decide (o ≠ r) && decide (mk s p o = mk s p r)).map fun o => (r, o) else none
def blameD (s t p : Int) (rows others : List (List Int)) (last : D) : D :=
  if List.Perm rows others ∨ ¬ prodS s t rows % p = prodS s t others % p then .non
  else if ¬ List.Perm (rows.map (mk s p)) (others.map (mk s p)) then .tup [.str "point", .int t]
  else match firstBad s p rows others rows with
    | some (r, o) => .tup [.str "rows", eI r, eI o]
    | none => last
def sp_count_of : SpD R0 := fun ds m Q _ => ∃ (rows : List (List Int)) (row : List Int), ds = [eII rows, eI row] ∧ rows.length ≤ 1000 ∧ Q (.int (B77.cn rows row : Int)) m
def sp_most_same : SpD R0 := fun ds m Q _ => ∃ many width p : Int, ds = [.int many, .int width, .int p] ∧ 0 ≤ many ∧ many ≤ 100 ∧ 1 ≤ width ∧ width ≤ 100 ∧ 0 ≤ p ∧ p ≤ 1000 ∧ Q (.int (min (p * p) (p * many * width))) m
def sp_bag_blame : SpD R0 := fun ds m Q _ => ∃ (rows others : List (List Int)) (s t p : Int), ds = [eII rows, eII others, .int s, .int t, .int p] ∧ 0 ≤ s ∧ s < p ∧ 2 ≤ p ∧ p ≤ 2147483647 ∧ rows.length = others.length ∧ rows.length ≤ 1000 ∧
  Q (blameD s t p rows others .non) m
def sp__law_due : SpD RD := fun ds m Q _ => ∃ (rows others : List (List Int)) (s t p : Int), ds = [eII rows, eII others, .int s, .int t, .int p] ∧ 0 ≤ s ∧ s < p ∧ 2 ≤ p ∧ p ≤ 2147483647 ∧ rows.length = others.length ∧ rows.length ≤ 1000 ∧
  Q (blameD s t p rows others (.tup [.str "none"])) m
theorem blame_in {E : DEnds R0} {m : R0.M} {rows others : List (List Int)} {s t p : Int} {a5 : En} {r : List Int} (h0 : 0 ≤ s) (h1 : s < p) (h3 : p ≤ 2147483647) : ∀ (l : List (List Int)) (j : En),
    (∀ o, l.find? (fun o => decide (o ≠ r) && decide (mk s p o = mk s p r)) = some o → E.rt (.tup [.str "rows", eI r, eI o]) m) →
    (l.find? (fun o => decide (o ≠ r) && decide (mk s p o = mk s p r)) = none → ∀ j, E.nx [.dat (eII rows), .dat (eII others), .dat (.int s), .dat (.int t), .dat (.int p), a5, .dat (eI r), j] m) →
    forD (tName 7) (b1_bag_blame sp_same_bag sp_mark sp_count_of) E (l.map eI) [.dat (eII rows), .dat (eII others), .dat (.int s), .dat (.int t), .dat (.int p), a5, .dat (eI r), j] m
  | [], j, _, hn => hn rfl j
  | o :: l, j, hs, hn => by
    rw [List.find?_cons] at hs hn
    walk_at "r"
    walk_at "eqI"
    refine ndec2 (fun e => ?_) (fun e => ?_)
    · walk_at "r"
      refine ⟨o, s, p, rfl, h0, h1, h3, ?_⟩
      walk_at "r"
      refine ⟨r, s, p, rfl, h0, h1, h3, ?_⟩
      rw [decide_eq_true e, Bool.true_and] at hs hn
      walk_at "w"
      refine dec2 (fun e2 => ?_) (fun e2 => ?_)
      · rw [decide_eq_true e2] at hs
        walk_at "r"
        exact hs o rfl
      · rw [decide_eq_false e2] at hs hn
        walk_at "r"
        exact blame_in h0 h1 h3 l _ hs hn
    · rw [show (decide (o ≠ r)) = false from decide_eq_false fun q => q e, Bool.false_and] at hs hn
      walk_at "r"
      exact blame_in h0 h1 h3 l _ hs hn
theorem blame_out {E : DEnds R0} {m : R0.M} {rows others : List (List Int)} {s t p : Int} {a5 : En} (h0 : 0 ≤ s) (h1 : s < p) (h3 : p ≤ 2147483647) (hr : rows.length ≤ 1000) (ho : others.length ≤ 1000) : ∀ (l : List (List Int)) (j k : En),
    (∀ r o, firstBad s p rows others l = some (r, o) → E.rt (.tup [.str "rows", eI r, eI o]) m) →
    (firstBad s p rows others l = none → ∀ j k, E.nx [.dat (eII rows), .dat (eII others), .dat (.int s), .dat (.int t), .dat (.int p), a5, j, k] m) →
    forD (tName 6) (b2_bag_blame sp_same_bag sp_mark sp_count_of) E (l.map eI) [.dat (eII rows), .dat (eII others), .dat (.int s), .dat (.int t), .dat (.int p), a5, j, k] m
  | [], j, k, _, hn => hn rfl j k
  | r :: l, j, k, hs, hn => by
    unfold firstBad at hs hn
    rw [List.findSome?_cons] at hs hn
    walk_at "r"
    refine ⟨rows, r, rfl, hr, ?_⟩
    walk_at "r"
    refine ⟨others, r, rfl, ho, ?_⟩
    walk_at "w"
    refine dec2 (fun e => ?_) (fun e => ?_)
    · rw [if_pos (by omega)] at hs hn
      walk_at "r"
      refine blame_in h0 h1 h3 others _ (fun o ho => ?_) fun ho j => ?_
      · rw [ho] at hs
        exact hs r o rfl
      · rw [ho] at hs hn
        exact blame_out h0 h1 h3 hr ‹_› l _ _ hs hn
    · rw [if_neg (by omega)] at hs hn
      walk_at "r"
      exact blame_out h0 h1 h3 hr ho l _ _ hs hn
theorem find_filter {α : Type} (q : α → Bool) : ∀ l : List α, (l.filter q)[0]? = l.find? q
  | [] => rfl
  | a :: l => by
    by_cases h : q a = true
    · rw [List.filter_cons_of_pos h, List.find?_cons_of_pos h]; rfl
    · rw [List.filter_cons_of_neg h, List.find?_cons_of_neg h]; exact find_filter q l
theorem due_out {E : DEnds RD} {m : RD.M} {rows others : List (List Int)} {s t p : Int} (h0 : 0 ≤ s) (h1 : s < p) (h2 : 2 ≤ p) (h3 : p ≤ 2147483647) (hr : rows.length ≤ 1000) (ho : others.length ≤ 1000) : ∀ (l : List (List Int)) (j k : En),
    (∀ r o, firstBad s p rows others l = some (r, o) → E.rt (.tup [.str "rows", eI r, eI o]) m) →
    (firstBad s p rows others l = none → ∀ j k, E.nx [.dat (eII rows), .dat (eII others), .dat (.int s), .dat (.int t), .dat (.int p), j, k, .un] m) →
    forD (tName 5) (b1__law_due sp__law_product sp__law_mark sp__law_times) E (l.map eI) [.dat (eII rows), .dat (eII others), .dat (.int s), .dat (.int t), .dat (.int p), j, k, .un] m
  | [], j, k, _, hn => hn rfl j k
  | r :: l, j, k, hs, hn => by
    unfold firstBad at hs hn
    rw [List.findSome?_cons] at hs hn
    walk_at "r"
    refine ⟨rows, r, rfl, hr, ?_⟩
    walk_at "r"
    refine ⟨others, r, rfl, ho, ?_⟩
    walk_at "w"
    refine dec2 (fun e => ?_) (fun e => ?_)
    · rw [if_pos (by show (others.filter fun o => decide (o = r)).length < (rows.filter fun o => decide (o = r)).length; omega)] at hs hn
      walk_at "r"
      refine lcD_filterT eI (fun o => decide (o ≠ r) && decide (mk s p o = mk s p r)) eI others [] (fun o _ P hP => ?_) (fun _ => trivial) (by rw [List.length_nil]; exact size1000 (by omega)) ?_
      · walk_at "r"
        walk_at "eqI"
        refine ndec2 (fun e3 => ?_) (fun e3 => ?_)
        · skip
          rw [decide_eq_true e3, Bool.true_and] at hP
          walk_at "r"
          refine ⟨o, s, p, rfl, h0, h1, h2, h3, ?_⟩
          walk_at "r"
          refine ⟨r, s, p, rfl, h0, h1, h2, h3, ?_⟩
          refine hP _ (fun _ P2 hh => ?_) rfl
          walk_at "w"
          exact hh _ rfl
        · skip
          rw [show (decide (o ≠ r)) = false from decide_eq_false fun q => q e3, Bool.false_and] at hP
          refine hP _ (fun q => Bool.noConfusion q) rfl
      · rw [List.nil_append]
        have ff := find_filter (fun o => decide (o ≠ r) && decide (mk s p o = mk s p r)) others
        generalize others.filter (fun o => decide (o ≠ r) && decide (mk s p o = mk s p r)) = found at ff
        walk_at "r"
        refine dec2 (fun e2 => ?_) (fun e2 => ?_)
        · cases found with
          | nil => simp at e2
          | cons o0 rest =>
            rw [← ff] at hs
            walk_at "r"
            refine ⟨_, eI o0, rfl, atI_enc (l := o0 :: rest) (i := 0) (by decide) rfl, ?_⟩
            walk_at "r"
            exact hs r o0 rfl
        · cases found with
          | cons o0 rest => rw [List.length_map, List.length_cons] at e2; omega
          | nil =>
            rw [← ff] at hs hn
            walk_at "r"
            exact due_out h0 h1 h2 h3 hr ho l _ _ hs hn
    · rw [if_neg (by show ¬ (others.filter fun o => decide (o = r)).length < (rows.filter fun o => decide (o = r)).length; omega)] at hs hn
      walk_at "r"
      exact due_out h0 h1 h2 h3 hr ho l _ _ hs hn
section
variable {P : Program} {w : World} {K : PySem.W.Frag} {mg : Str → Option Value} {base : Heap}
theorem d_count_of (T : Txt K mg) : DefOk P w K mg base R0 1 "count_of" ["rows", "row"] sp_count_of := by
  refine dv_count_of T fun ds m Q Z hl h => ?_
  obtain ⟨rows, row, rfl, hn, hq⟩ := h
  walk_at "r"
  refine lcD_filterT eI (fun o => decide (o = row)) eI rows [] (fun o ho P hP => ?_) (fun _ => trivial) (by rw [List.length_nil]; exact size1000 (by omega)) ?_
  · walk_at "r"
    walk_at "eqI"
    refine hP _ (fun _ P2 h2 => ?_) rfl
    walk_at "w"
    exact h2 _ rfl
  · walk_at "r"
    rw [List.nil_append, List.length_map]
    exact hq
theorem d_most_same (T : Txt K mg) : DefOk P w K mg base R0 1 "most_same" ["many", "width", "p"] sp_most_same := by
  refine dv_most_same T fun ds m Q Z hl h => ?_
  obtain ⟨many, width, p, rfl, a0, a1, w0, w1, p0, p1, hq⟩ := h
  walk_at "r"
  rw [show (if width > 1 then width else 1) = width by split <;> omega]
  have z : (if p * many * width < p * p then p * many * width else p * p) = min (p * p) (p * many * width) := by
    rw [Int.min_def]
    split <;> split <;> omega
  show Q (.int (if p * many * width < p * p then p * many * width else p * p)) m
  rw [z]
  exact hq
theorem d_bag_blame (T : Txt K mg) : DefOk P w K mg base R0 4 "bag_blame" ["rows", "others", "s", "t", "p"] sp_bag_blame := by
  refine dv_bag_blame T (d_same_bag T) (d_mark T) (d_count_of T) fun ds m Q Z hl h => ?_
  obtain ⟨rows, others, s, t, p, rfl, h0, h1, h2, h3, hlen, hn, hq⟩ := h
  walk_at "r"
  refine ⟨_, rows.map eI, rfl, rfl, pls_eI _, alike_rows _, sortable_rows _, depth_rows _, ?_⟩
  rw [sort_eII]
  walk_at "r"
  refine ⟨_, others.map eI, rfl, rfl, pls_eI _, alike_rows _, sortable_rows _, depth_rows _, ?_⟩
  rw [sort_eII]
  walk_at "r"
  walk_at "eqII"
  rw [dec_rows]
  walk_at "w"
  refine dec2 (fun e => ?_) (fun e => ?_)
  · walk_at "r"
    rw [show blameD s t p rows others .non = .non from if_pos (Or.inl e)] at hq
    exact hq
  walk_at "r"
  refine ⟨rows, others, s, t, p, rfl, h0, h1, h2, h3, ?_⟩
  walk_at "w"
  refine ndec2 (fun e2 => ?_) (fun e2 => ?_)
  · walk_at "r"
    rw [show blameD s t p rows others .non = .non from if_pos (Or.inr fun q => e2 ⟨hlen, q⟩)] at hq
    exact hq
  have nb : ¬ (List.Perm rows others ∨ ¬ prodS s t rows % p = prodS s t others % p) := fun q => q.elim e fun q => q e2.2
  walk_at "r"
  refine lcD_mapT eI (fun r : List Int => D.int (mk s p r)) rows [] (fun r hr P hP => ?_) (fun _ => trivial) (by rw [List.length_nil]; exact size1000 (by omega)) ?_
  · walk_at "r"
    exact ⟨r, s, p, rfl, h0, h1, h3, hP _ rfl⟩
  rw [List.nil_append, show rows.map (fun r : List Int => D.int (mk s p r)) = (rows.map (mk s p)).map D.int by rw [List.map_map]; rfl]
  walk_at "r"
  refine ⟨_, (rows.map (mk s p)).map D.int, rfl, rfl, pls_nums _, alike_nums _, sortable_nums _, depth_nums _, ?_⟩
  rw [sort_eI]
  walk_at "r"
  refine lcD_mapT eI (fun r : List Int => D.int (mk s p r)) others [] (fun r hr P hP => ?_) (fun _ => trivial) (by rw [List.length_nil]; exact size1000 (by omega)) ?_
  · walk_at "r"
    exact ⟨r, s, p, rfl, h0, h1, h3, hP _ rfl⟩
  rw [List.nil_append, show others.map (fun r : List Int => D.int (mk s p r)) = (others.map (mk s p)).map D.int by rw [List.map_map]; rfl]
  walk_at "r"
  refine ⟨_, (others.map (mk s p)).map D.int, rfl, rfl, pls_nums _, alike_nums _, sortable_nums _, depth_nums _, ?_⟩
  rw [sort_eI]
  walk_at "r"
  walk_at "eqI"
  rw [dec_nums]
  refine ndec2 (fun e3 => ?_) (fun e3 => ?_)
  · walk_at "r"
    rw [show blameD s t p rows others .non = .tup [.str "point", .int t] from (if_neg nb).trans (if_pos e3)] at hq
    exact hq
  have zb : blameD s t p rows others .non = match firstBad s p rows others rows with
    | some (r, o) => .tup [.str "rows", eI r, eI o]
    | none => .non := (if_neg nb).trans (if_neg fun q => q e3)
  rw [zb] at hq
  walk_at "r"
  refine blame_out h0 h1 h3 hn (by omega) rows _ _ (fun r o hf => ?_) fun hf j k => ?_
  · rw [hf] at hq
    walk_at "r"
    exact hq
  · rw [hf] at hq
    walk_at "r"
    exact hq
theorem d__law_due (T : Txt K mg) : DefOk P w K mg base RD 3 "_law_due" ["_law_rows_here", "_law_others", "_law_s", "_law_t", "_law_p"] sp__law_due := by
  refine dv__law_due T (d__law_product T) (d__law_mark T) (d__law_times T) fun ds m Q Z hl h => ?_
  obtain ⟨rows, others, s, t, p, rfl, h0, h1, h2, h3, hlen, hn, hq⟩ := h
  walk_at "r"
  refine ⟨_, rows.map eI, rfl, rfl, pls_eI _, alike_rows _, sortable_rows _, depth_rows _, ?_⟩
  rw [sort_eII]
  walk_at "r"
  refine ⟨_, others.map eI, rfl, rfl, pls_eI _, alike_rows _, sortable_rows _, depth_rows _, ?_⟩
  rw [sort_eII]
  walk_at "r"
  walk_at "eqII"
  rw [dec_rows]
  walk_at "w"
  refine dec2 (fun e => ?_) (fun e => ?_)
  · walk_at "r"
    rw [show blameD s t p rows others (.tup [.str "none"]) = .non from if_pos (Or.inl e)] at hq
    exact hq
  walk_at "r"
  refine ⟨rows, s, t, p, rfl, h0, h1, h2, h3, ?_⟩
  walk_at "r"
  refine ⟨others, s, t, p, rfl, h0, h1, h2, h3, ?_⟩
  walk_at "w"
  refine ndec2 (fun e2 => ?_) (fun e2 => ?_)
  · walk_at "r"
    rw [show blameD s t p rows others (.tup [.str "none"]) = .non from if_pos (Or.inr fun q => e2 q)] at hq
    exact hq
  have nb : ¬ (List.Perm rows others ∨ ¬ prodS s t rows % p = prodS s t others % p) := fun q => q.elim e fun q => q e2
  walk_at "r"
  refine lcD_mapT eI (fun r : List Int => D.int (mk s p r)) rows [] (fun r hr P hP => ?_) (fun _ => trivial) (by rw [List.length_nil]; exact size1000 (by omega)) ?_
  · walk_at "r"
    exact ⟨r, s, p, rfl, h0, h1, h2, h3, hP _ rfl⟩
  rw [List.nil_append, show rows.map (fun r : List Int => D.int (mk s p r)) = (rows.map (mk s p)).map D.int by rw [List.map_map]; rfl]
  walk_at "r"
  refine ⟨_, (rows.map (mk s p)).map D.int, rfl, rfl, pls_nums _, alike_nums _, sortable_nums _, depth_nums _, ?_⟩
  rw [sort_eI]
  walk_at "r"
  refine lcD_mapT eI (fun r : List Int => D.int (mk s p r)) others [] (fun r hr P hP => ?_) (fun _ => trivial) (by rw [List.length_nil]; exact size1000 (by omega)) ?_
  · walk_at "r"
    exact ⟨r, s, p, rfl, h0, h1, h2, h3, hP _ rfl⟩
  rw [List.nil_append, show others.map (fun r : List Int => D.int (mk s p r)) = (others.map (mk s p)).map D.int by rw [List.map_map]; rfl]
  walk_at "r"
  refine ⟨_, (others.map (mk s p)).map D.int, rfl, rfl, pls_nums _, alike_nums _, sortable_nums _, depth_nums _, ?_⟩
  rw [sort_eI]
  walk_at "r"
  walk_at "eqI"
  rw [dec_nums]
  refine ndec2 (fun e3 => ?_) (fun e3 => ?_)
  · walk_at "r"
    rw [show blameD s t p rows others (.tup [.str "none"]) = .tup [.str "point", .int t] from (if_neg nb).trans (if_pos e3)] at hq
    exact hq
  have zb : blameD s t p rows others (.tup [.str "none"]) = match firstBad s p rows others rows with
    | some (r, o) => .tup [.str "rows", eI r, eI o]
    | none => .tup [.str "none"] := (if_neg nb).trans (if_neg fun q => q e3)
  rw [zb] at hq
  walk_at "r"
  refine due_out h0 h1 h2 h3 hn (by omega) rows _ _ (fun r o hf => ?_) fun hf j k => ?_
  · rw [hf] at hq
    walk_at "r"
    exact hq
  · rw [hf] at hq
    walk_at "r"
    exact hq
end
end G77

namespace G77
open PySem L2 DL PL
local macro_rules | `(tactic| walk_at "w") => `(tactic| (conv => whnf))
local macro_rules | `(tactic| walk_at "s") => `(tactic| ((conv => whnf); first
  | refine And.intro trivial ?_ | refine And.intro (And.intro trivial trivial) ?_ | refine And.intro (And.intro trivial (And.intro trivial trivial)) ?_ | refine And.intro (And.intro trivial (And.intro trivial (And.intro trivial trivial))) ?_ | refine And.intro (And.intro trivial (And.intro trivial (And.intro trivial (And.intro trivial trivial)))) ?_ | refine And.intro (And.intro trivial (And.intro trivial (And.intro trivial (And.intro trivial (And.intro trivial trivial))))) ?_ | refine And.intro (And.intro trivial (And.intro trivial (And.intro trivial (And.intro trivial (And.intro trivial (And.intro trivial trivial)))))) ?_ | refine And.intro (And.intro trivial (And.intro trivial (And.intro trivial (And.intro trivial (And.intro trivial (And.intro trivial (And.intro trivial trivial))))))) ?_ | refine And.intro (And.intro trivial (And.intro trivial (And.intro trivial (And.intro trivial (And.intro trivial (And.intro trivial (And.intro trivial (And.intro trivial trivial)))))))) ?_ | refine And.intro (And.intro trivial (And.intro trivial (And.intro trivial (And.intro trivial (And.intro trivial (And.intro trivial (And.intro trivial (And.intro trivial (And.intro trivial trivial))))))))) ?_ | refine And.intro (And.intro trivial (And.intro trivial (And.intro trivial (And.intro trivial (And.intro trivial (And.intro trivial (And.intro trivial (And.intro trivial (And.intro trivial (And.intro trivial trivial)))))))))) ?_
  | refine And.intro (fun (_ : true = true) => ?_) (fun (q : true = false) => Bool.noConfusion q) | refine And.intro (fun (q : false = true) => Bool.noConfusion q) (fun (_ : false = false) => ?_) | refine And.intro rfl ?_
  | refine And.intro (by show (0 : Int) < _; omega) ?_ | refine And.intro (Or.inl (And.intro (by omega) (by omega))) ?_ | refine And.intro (Or.inr (And.intro (by omega) (by omega))) ?_ | refine And.intro (And.intro (by decide) (by decide)) ?_ | refine And.intro (DL.size1000 (Nat.le_of_ble_eq_true rfl)) ?_))
local macro_rules | `(tactic| walk_at "r") => `(tactic| ((repeat walk_at "s"); try walk_at "w"))
local macro_rules | `(tactic| walk_at "eqI") => `(tactic| (refine And.intro (pl_eI _) (And.intro (pl_eI _) (And.intro (shaped_eI _) (And.intro (shaped_eI _) ?_))); rw [eqv_flat_eI]))
local macro_rules | `(tactic| walk_at "eqII") => `(tactic| (refine And.intro (pl_eII _) (And.intro (pl_eII _) (And.intro (shaped_eII _) (And.intro (shaped_eII _) ?_))); rw [eqv_flat_eII]))
structure Fine (d : D) : Prop where
  pl : d.pl = true
  sh : SeqAt.shaped d.toP = true
  self : PyData.eqv d.toP d.toP = true
  nn : PyData.eqv d.toP (D.tup [.str "none"]).toP = false
theorem fine_of {d : D} (h1 : d.pl = true) (h2 : d.toP.canLay0 = true) (h3 : d.toP.depth ≤ 64) (h4 : PyData.eqv d.toP (D.tup [.str "none"]).toP = false) : Fine d := ⟨h1, shaped_of h2 h3, SeqAt.eqv_refl _ h2, h4⟩
theorem pl_none : (D.tup [.str "none"]).pl = true := by decide
theorem toP_none : (D.tup [.str "none"]).toP = .tuple [.str "none"] := by rw [toP_tup]; simp only [List.map_cons, List.map_nil, D.toP]
theorem sh_none : SeqAt.shaped (D.tup [.str "none"]).toP = true := by rw [toP_none]; decide +kernel
theorem fine_non : Fine .non := by
  have e : D.non.toP = .none := by simp only [D.toP]
  refine fine_of (by decide) ?_ ?_ ?_
  · rw [e]; simp only [PyData.canLay0]
  · rw [e]; simp only [PyData.depth]; decide
  · rw [e, toP_none]; simp only [PyData.eqv]
theorem fine_point (t : Int) : Fine (.tup [.str "point", .int t]) := by
  have e : (D.tup [.str "point", .int t]).toP = .tuple [.str "point", .int t] := by rw [toP_tup]; simp only [List.map_cons, List.map_nil, D.toP]
  refine fine_of rfl ?_ ?_ ?_
  · rw [e]
    simp only [PyData.canLay0, PyData.canLayAll0, Bool.and_true]
    decide +kernel
  · rw [e]; simp only [PyData.depth, PyData.depthAll]; decide
  · rw [e, toP_none]
    simp only [PyData.eqv, PyData.eqvAll, Bool.and_false]
theorem fine_rows (r o : List Int) : Fine (.tup [.str "rows", eI r, eI o]) := by
  have e : (D.tup [.str "rows", eI r, eI o]).toP = .tuple [.str "rows", (eI r).toP, (eI o).toP] := by rw [toP_tup]; simp only [List.map_cons, List.map_nil, D.toP]
  refine fine_of ?_ ?_ ?_ ?_
  · show (true && ((eI r).pl && ((eI o).pl && true))) = true
    rw [pl_eI, pl_eI]; rfl
  · rw [e]
    simp only [PyData.canLay0, PyData.canLayAll0, lay_eI, Bool.and_true]
    decide +kernel
  · rw [e]
    have h1 := depth_eI r
    have h2 := depth_eI o
    simp only [PyData.depth, PyData.depthAll]
    omega
  · rw [e, toP_none]
    simp only [PyData.eqv, PyData.eqvAll, Bool.and_false]
/-- the pair of throws lets the false claim by -/
def good (p : Int) (rows others : List (List Int)) (s t : Int) : Bool := !decide (List.Perm rows others) && decide (prodS s t rows % p = prodS s t others % p)
def cntS (p : Int) (rows others : List (List Int)) (s : Int) (l : List Nat) : Int := ((l.filter fun t : Nat => good p rows others s (t : Int)).length : Int)
theorem cntS_cons {p : Int} {rows others : List (List Int)} {s : Int} {t : Nat} {l : List Nat} : cntS p rows others s (t :: l) = (if good p rows others s (t : Int) = true then 1 else 0) + cntS p rows others s l := by
  unfold cntS
  by_cases h : good p rows others s (t : Int) = true
  · rw [if_pos h, List.filter_cons_of_pos (p := fun t : Nat => good p rows others s (t : Int)) h, List.length_cons]; omega
  · rw [if_neg h, List.filter_cons_of_neg (p := fun t : Nat => good p rows others s (t : Int)) h]; omega
theorem in_loop {E : DEnds RD} {m : RD.M} {p s : Int} {rows others : List (List Int)} {a0 a1 a3 a8 : En} (hpz : B77.Pr p) (h2 : 2 ≤ p) (h3 : p ≤ 2147483647) (hlen : rows.length = others.length) (hn : rows.length ≤ 1000) (h0 : 0 ≤ s) (h1 : s < p) : ∀ (l : List Nat) (c : Int) (j9 j10 j11 : En), (∀ t ∈ l, (t : Int) < p) →
    (∀ j9 j10 j11, E.nx [a0, a1, .dat (.int p), a3, .dat (eII rows), .dat (eII others), .dat (.int (c + cntS p rows others s l)), .dat (.int s), a8, j9, j10, j11] m) →
    forD (tName 9) (b1_law sp__law_state sp__law_pick sp_draw sp__law_rows sp__law_other (liftSp sp_same_bag) sp__law_due (liftSp sp_bag_blame) (liftSp sp_most_same)) E (l.map fun k : Nat => D.int (0 + (k : Int) * 1)) [a0, a1, .dat (.int p), a3, .dat (eII rows), .dat (eII others), .dat (.int c), .dat (.int s), a8, j9, j10, j11] m
  | [], c, j9, j10, j11, _, h => by
    have := h j9 j10 j11
    rw [show cntS p rows others s [] = 0 from rfl, Int.add_zero] at this
    exact this
  | k :: l, c, j9, j10, j11, hlt, h => by
    have hk := hlt k (List.mem_cons_self ..)
    have ek : (0 + (k : Int) * 1) = (k : Int) := by omega
    rw [List.map_cons, ek]
    obtain ⟨t, ht⟩ : ∃ t : Int, t = (k : Int) := ⟨_, rfl⟩
    have ce := cntS_cons (p := p) (rows := rows) (others := others) (s := s) (t := k) (l := l)
    rw [← ht] at ce ⊢
    rw [ce] at h
    clear ce ek
    by_cases hp : List.Perm rows others
    · have hT : decide (rows.length = others.length ∧ prodS s t rows % p = prodS s t others % p) = true := decide_eq_true ⟨hlen, by rw [prodS_perm hp]⟩
      have hB : blameD s t p rows others .non = .non := if_pos (Or.inl hp)
      have hD : blameD s t p rows others (.tup [.str "none"]) = .non := if_pos (Or.inl hp)
      have hc : c + ((if good p rows others s t = true then 1 else 0) + cntS p rows others s l) = c + cntS p rows others s l := by
        have : good p rows others s t = false := by unfold good; rw [decide_eq_true hp]; rfl
        rw [this, if_neg (by decide)]; omega
      walk_at "r"
      refine ⟨rows, others, s, t, p, rfl, h0, h1, h2, h3, ?_⟩
      rw [hT]
      walk_at "r"
      refine ⟨rows, others, s, t, p, rfl, h0, h1, h2, h3, hlen, hn, ?_⟩
      rw [hD]
      walk_at "r"
      refine ⟨rows, others, s, t, p, rfl, h0, h1, h2, h3, hlen, hn, ?_⟩
      rw [hB]
      walk_at "r"
      try (
        first
        | refine And.intro fine_non.pl (And.intro fine_non.pl (And.intro fine_non.sh (And.intro fine_non.sh ?_)))
        | refine And.intro fine_non.pl (And.intro fine_non.sh (And.intro fine_non.sh ?_))
        | refine And.intro fine_non.sh (And.intro fine_non.sh ?_)
        | refine And.intro fine_non.sh ?_
        rw [show ∀ w ρ w' ρ', PyData.eqv (flat w ρ D.non).toP (flat w' ρ' D.non).toP = true from fun _ _ _ _ => fine_non.self]
        walk_at "r")
      first
      | refine And.intro fine_non.pl (And.intro pl_none (And.intro fine_non.sh (And.intro sh_none ?_)))
      | refine And.intro pl_none (And.intro fine_non.sh (And.intro sh_none ?_))
      | refine And.intro fine_non.sh (And.intro sh_none ?_)
      | refine And.intro sh_none ?_
      rw [show ∀ w ρ w' ρ', PyData.eqv (flat w ρ D.non).toP (flat w' ρ' (D.tup [.str "none"])).toP = false from fun _ _ _ _ => fine_non.nn]
      walk_at "r"
      refine ⟨_, rows.map eI, rfl, rfl, pls_eI _, alike_rows _, sortable_rows _, depth_rows _, ?_⟩
      rw [sort_eII]
      walk_at "r"
      refine ⟨_, others.map eI, rfl, rfl, pls_eI _, alike_rows _, sortable_rows _, depth_rows _, ?_⟩
      rw [sort_eII]
      walk_at "r"
      walk_at "eqII"
      rw [dec_rows, decide_eq_true hp]
      walk_at "r"
      refine in_loop hpz h2 h3 hlen hn h0 h1 l _ _ _ _ (fun t ht => hlt t (List.mem_cons_of_mem _ ht)) fun j9 j10 j11 => ?_
      have hh := h j9 j10 j11
      rw [hc] at hh
      exact hh
    by_cases he : prodS s t rows % p = prodS s t others % p
    · have hT : decide (rows.length = others.length ∧ prodS s t rows % p = prodS s t others % p) = true := decide_eq_true ⟨hlen, he⟩
      have hc : c + ((if good p rows others s t = true then 1 else 0) + cntS p rows others s l) = c + 1 + cntS p rows others s l := by
        have : good p rows others s t = true := by unfold good; rw [decide_eq_false hp, decide_eq_true he]; rfl
        rw [this, if_pos rfl]; omega
      have nb : ¬ (List.Perm rows others ∨ ¬ prodS s t rows % p = prodS s t others % p) := fun q => q.elim hp fun q => q he
      by_cases hm : List.Perm (rows.map (mk s p)) (others.map (mk s p))
      · obtain ⟨r0, hr0, hc0, o0, ho0, hne0, hmk0⟩ := B77.blame_ex hlen hp hm
        obtain ⟨r, o, hf⟩ : ∃ r o, firstBad s p rows others rows = some (r, o) := by
          cases hf : firstBad s p rows others rows with
          | some q => exact ⟨q.1, q.2, rfl⟩
          | none =>
            have := List.findSome?_eq_none_iff.mp hf r0 hr0
            rw [if_pos hc0] at this
            have h5 := List.find?_eq_none.mp (Option.map_eq_none_iff.mp this) o0 ho0
            simp [hne0, hmk0] at h5
        have hB : blameD s t p rows others .non = .tup [.str "rows", eI r, eI o] := ((if_neg nb).trans (if_neg fun q => q hm)).trans (by rw [hf])
        have hD : blameD s t p rows others (.tup [.str "none"]) = .tup [.str "rows", eI r, eI o] := ((if_neg nb).trans (if_neg fun q => q hm)).trans (by rw [hf])
        walk_at "r"
        refine ⟨rows, others, s, t, p, rfl, h0, h1, h2, h3, ?_⟩
        rw [hT]
        walk_at "r"
        refine ⟨rows, others, s, t, p, rfl, h0, h1, h2, h3, hlen, hn, ?_⟩
        rw [hD]
        walk_at "r"
        refine ⟨rows, others, s, t, p, rfl, h0, h1, h2, h3, hlen, hn, ?_⟩
        rw [hB]
        walk_at "r"
        try (
          first
          | refine And.intro (fine_rows r o).pl (And.intro (fine_rows r o).pl (And.intro (fine_rows r o).sh (And.intro (fine_rows r o).sh ?_)))
          | refine And.intro (fine_rows r o).pl (And.intro (fine_rows r o).sh (And.intro (fine_rows r o).sh ?_))
          | refine And.intro (fine_rows r o).sh (And.intro (fine_rows r o).sh ?_)
          | refine And.intro (fine_rows r o).sh ?_
          rw [show ∀ w ρ w' ρ', PyData.eqv (flat w ρ (D.tup [.str "rows", eI r, eI o])).toP (flat w' ρ' (D.tup [.str "rows", eI r, eI o])).toP = true from fun _ _ _ _ => (fine_rows r o).self]
          walk_at "r")
        first
        | refine And.intro (fine_rows r o).pl (And.intro pl_none (And.intro (fine_rows r o).sh (And.intro sh_none ?_)))
        | refine And.intro pl_none (And.intro (fine_rows r o).sh (And.intro sh_none ?_))
        | refine And.intro (fine_rows r o).sh (And.intro sh_none ?_)
        | refine And.intro sh_none ?_
        rw [show ∀ w ρ w' ρ', PyData.eqv (flat w ρ (D.tup [.str "rows", eI r, eI o])).toP (flat w' ρ' (D.tup [.str "none"])).toP = false from fun _ _ _ _ => (fine_rows r o).nn]
        walk_at "r"
        refine ⟨_, rows.map eI, rfl, rfl, pls_eI _, alike_rows _, sortable_rows _, depth_rows _, ?_⟩
        rw [sort_eII]
        walk_at "r"
        refine ⟨_, others.map eI, rfl, rfl, pls_eI _, alike_rows _, sortable_rows _, depth_rows _, ?_⟩
        rw [sort_eII]
        walk_at "r"
        walk_at "eqII"
        rw [dec_rows, decide_eq_false hp]
        walk_at "r"
        refine in_loop hpz h2 h3 hlen hn h0 h1 l _ _ _ _ (fun t ht => hlt t (List.mem_cons_of_mem _ ht)) fun j9 j10 j11 => ?_
        have hh := h j9 j10 j11
        rw [hc] at hh
        exact hh
      · have hB : blameD s t p rows others .non = .tup [.str "point", .int t] := (if_neg nb).trans (if_pos hm)
        have hD : blameD s t p rows others (.tup [.str "none"]) = .tup [.str "point", .int t] := (if_neg nb).trans (if_pos hm)
        walk_at "r"
        refine ⟨rows, others, s, t, p, rfl, h0, h1, h2, h3, ?_⟩
        rw [hT]
        walk_at "r"
        refine ⟨rows, others, s, t, p, rfl, h0, h1, h2, h3, hlen, hn, ?_⟩
        rw [hD]
        walk_at "r"
        refine ⟨rows, others, s, t, p, rfl, h0, h1, h2, h3, hlen, hn, ?_⟩
        rw [hB]
        walk_at "r"
        try (
          first
          | refine And.intro (fine_point t).pl (And.intro (fine_point t).pl (And.intro (fine_point t).sh (And.intro (fine_point t).sh ?_)))
          | refine And.intro (fine_point t).pl (And.intro (fine_point t).sh (And.intro (fine_point t).sh ?_))
          | refine And.intro (fine_point t).sh (And.intro (fine_point t).sh ?_)
          | refine And.intro (fine_point t).sh ?_
          rw [show ∀ w ρ w' ρ', PyData.eqv (flat w ρ (D.tup [.str "point", .int t])).toP (flat w' ρ' (D.tup [.str "point", .int t])).toP = true from fun _ _ _ _ => (fine_point t).self]
          walk_at "r")
        first
        | refine And.intro (fine_point t).pl (And.intro pl_none (And.intro (fine_point t).sh (And.intro sh_none ?_)))
        | refine And.intro pl_none (And.intro (fine_point t).sh (And.intro sh_none ?_))
        | refine And.intro (fine_point t).sh (And.intro sh_none ?_)
        | refine And.intro sh_none ?_
        rw [show ∀ w ρ w' ρ', PyData.eqv (flat w ρ (D.tup [.str "point", .int t])).toP (flat w' ρ' (D.tup [.str "none"])).toP = false from fun _ _ _ _ => (fine_point t).nn]
        walk_at "r"
        refine ⟨_, rows.map eI, rfl, rfl, pls_eI _, alike_rows _, sortable_rows _, depth_rows _, ?_⟩
        rw [sort_eII]
        walk_at "r"
        refine ⟨_, others.map eI, rfl, rfl, pls_eI _, alike_rows _, sortable_rows _, depth_rows _, ?_⟩
        rw [sort_eII]
        walk_at "r"
        walk_at "eqII"
        rw [dec_rows, decide_eq_false hp]
        walk_at "r"
        refine in_loop hpz h2 h3 hlen hn h0 h1 l _ _ _ _ (fun t ht => hlt t (List.mem_cons_of_mem _ ht)) fun j9 j10 j11 => ?_
        have hh := h j9 j10 j11
        rw [hc] at hh
        exact hh
    · have hT : decide (rows.length = others.length ∧ prodS s t rows % p = prodS s t others % p) = false := decide_eq_false fun q => he q.2
      have hB : blameD s t p rows others .non = .non := if_pos (Or.inr he)
      have hD : blameD s t p rows others (.tup [.str "none"]) = .non := if_pos (Or.inr he)
      have hc : c + ((if good p rows others s t = true then 1 else 0) + cntS p rows others s l) = c + 0 + cntS p rows others s l := by
        have : good p rows others s t = false := by unfold good; rw [decide_eq_false hp, decide_eq_false he]; rfl
        rw [this, if_neg (by decide)]; omega
      walk_at "r"
      refine ⟨rows, others, s, t, p, rfl, h0, h1, h2, h3, ?_⟩
      rw [hT]
      walk_at "r"
      refine ⟨rows, others, s, t, p, rfl, h0, h1, h2, h3, hlen, hn, ?_⟩
      rw [hD]
      walk_at "r"
      refine ⟨rows, others, s, t, p, rfl, h0, h1, h2, h3, hlen, hn, ?_⟩
      rw [hB]
      walk_at "r"
      try (
        first
        | refine And.intro fine_non.pl (And.intro fine_non.pl (And.intro fine_non.sh (And.intro fine_non.sh ?_)))
        | refine And.intro fine_non.pl (And.intro fine_non.sh (And.intro fine_non.sh ?_))
        | refine And.intro fine_non.sh (And.intro fine_non.sh ?_)
        | refine And.intro fine_non.sh ?_
        rw [show ∀ w ρ w' ρ', PyData.eqv (flat w ρ D.non).toP (flat w' ρ' D.non).toP = true from fun _ _ _ _ => fine_non.self]
        walk_at "r")
      first
      | refine And.intro fine_non.pl (And.intro pl_none (And.intro fine_non.sh (And.intro sh_none ?_)))
      | refine And.intro pl_none (And.intro fine_non.sh (And.intro sh_none ?_))
      | refine And.intro fine_non.sh (And.intro sh_none ?_)
      | refine And.intro sh_none ?_
      rw [show ∀ w ρ w' ρ', PyData.eqv (flat w ρ D.non).toP (flat w' ρ' (D.tup [.str "none"])).toP = false from fun _ _ _ _ => fine_non.nn]
      walk_at "r"
      refine ⟨_, rows.map eI, rfl, rfl, pls_eI _, alike_rows _, sortable_rows _, depth_rows _, ?_⟩
      rw [sort_eII]
      walk_at "r"
      refine ⟨_, others.map eI, rfl, rfl, pls_eI _, alike_rows _, sortable_rows _, depth_rows _, ?_⟩
      rw [sort_eII]
      walk_at "r"
      walk_at "eqII"
      rw [dec_rows, decide_eq_false hp]
      walk_at "r"
      refine in_loop hpz h2 h3 hlen hn h0 h1 l _ _ _ _ (fun t ht => hlt t (List.mem_cons_of_mem _ ht)) fun j9 j10 j11 => ?_
      have hh := h j9 j10 j11
      rw [hc] at hh
      exact hh
end G77

namespace G77
open PySem L2 DL PL
local macro_rules | `(tactic| walk_at "w") => `(tactic| (conv => whnf))
local macro_rules | `(tactic| walk_at "s") => `(tactic| ((conv => whnf); first
  | refine And.intro trivial ?_ | refine And.intro (And.intro trivial trivial) ?_ | refine And.intro (And.intro trivial (And.intro trivial trivial)) ?_ | refine And.intro (And.intro trivial (And.intro trivial (And.intro trivial trivial))) ?_ | refine And.intro (And.intro trivial (And.intro trivial (And.intro trivial (And.intro trivial trivial)))) ?_ | refine And.intro (And.intro trivial (And.intro trivial (And.intro trivial (And.intro trivial (And.intro trivial trivial))))) ?_ | refine And.intro (And.intro trivial (And.intro trivial (And.intro trivial (And.intro trivial (And.intro trivial (And.intro trivial trivial)))))) ?_ | refine And.intro (And.intro trivial (And.intro trivial (And.intro trivial (And.intro trivial (And.intro trivial (And.intro trivial (And.intro trivial trivial))))))) ?_ | refine And.intro (And.intro trivial (And.intro trivial (And.intro trivial (And.intro trivial (And.intro trivial (And.intro trivial (And.intro trivial (And.intro trivial trivial)))))))) ?_ | refine And.intro (And.intro trivial (And.intro trivial (And.intro trivial (And.intro trivial (And.intro trivial (And.intro trivial (And.intro trivial (And.intro trivial (And.intro trivial trivial))))))))) ?_ | refine And.intro (And.intro trivial (And.intro trivial (And.intro trivial (And.intro trivial (And.intro trivial (And.intro trivial (And.intro trivial (And.intro trivial (And.intro trivial (And.intro trivial trivial)))))))))) ?_
  | refine And.intro (fun (_ : true = true) => ?_) (fun (q : true = false) => Bool.noConfusion q) | refine And.intro (fun (q : false = true) => Bool.noConfusion q) (fun (_ : false = false) => ?_) | refine And.intro rfl ?_
  | refine And.intro (by show (0 : Int) < _; omega) ?_ | refine And.intro (Or.inl (And.intro (by omega) (by omega))) ?_ | refine And.intro (Or.inr (And.intro (by omega) (by omega))) ?_ | refine And.intro (And.intro (by decide) (by decide)) ?_ | refine And.intro (DL.size1000 (Nat.le_of_ble_eq_true rfl)) ?_))
local macro_rules | `(tactic| walk_at "r") => `(tactic| ((repeat walk_at "s"); try walk_at "w"))
local macro_rules | `(tactic| walk_at "eqI") => `(tactic| (refine And.intro (pl_eI _) (And.intro (pl_eI _) (And.intro (shaped_eI _) (And.intro (shaped_eI _) ?_))); rw [eqv_flat_eI]))
local macro_rules | `(tactic| walk_at "eqII") => `(tactic| (refine And.intro (pl_eII _) (And.intro (pl_eII _) (And.intro (shaped_eII _) (And.intro (shaped_eII _) ?_))); rw [eqv_flat_eII]))
theorem pr_nat (n : Nat) (h2 : 2 ≤ n) (h : ∀ x : Fin n, ∀ y : Fin n, (x.val * y.val) % n = 0 → x.val = 0 ∨ y.val = 0) : B77.Pr (n : Int) := by
  refine ⟨by omega, fun a b hab => ?_⟩
  have hn : (0 : Int) < n := by omega
  have ha0 := Int.emod_nonneg a (by omega : (n : Int) ≠ 0)
  have ha1 := Int.emod_lt_of_pos a hn
  have hb0 := Int.emod_nonneg b (by omega : (n : Int) ≠ 0)
  have hb1 := Int.emod_lt_of_pos b hn
  have hz : (a % n) * (b % n) % n = 0 := by rw [← Int.mul_emod]; exact Int.emod_eq_zero_of_dvd hab
  have key := h ⟨(a % n).toNat, by omega⟩ ⟨(b % n).toNat, by omega⟩ (by
    show ((a % n).toNat * (b % n).toNat) % n = 0
    have : (((a % n).toNat * (b % n).toNat % n : Nat) : Int) = 0 := by
      rw [Int.natCast_emod, Int.natCast_mul, Int.toNat_of_nonneg ha0, Int.toNat_of_nonneg hb0]
      exact hz
    omega)
  rcases key with k | k
  · exact .inl (Int.dvd_of_emod_eq_zero (by have k' : (a % n).toNat = 0 := k; omega))
  · exact .inr (Int.dvd_of_emod_eq_zero (by have k' : (b % n).toNat = 0 := k; omega))
def sumS (p : Int) (rows others : List (List Int)) (l : List Nat) : Int := ((l.map fun s : Nat => ((List.range p.toNat).filter fun t : Nat => good p rows others (s : Int) (t : Int)).length).sum : Nat)
theorem sumS_cons {p : Int} {rows others : List (List Int)} {s : Nat} {l : List Nat} : sumS p rows others (s :: l) = cntS p rows others (s : Int) (List.range p.toNat) + sumS p rows others l := by
  unfold sumS cntS
  rw [List.map_cons, List.sum_cons]
  omega
theorem out_loop {E : DEnds RD} {m : RD.M} {p : Int} {rows others : List (List Int)} {a0 a1 a3 a8 : En} (hpz : B77.Pr p) (h2 : 2 ≤ p) (h3 : p ≤ 2147483647) (hlen : rows.length = others.length) (hn : rows.length ≤ 1000) : ∀ (l : List Nat) (c : Int) (j7 j9 j10 j11 : En), (∀ s ∈ l, (s : Int) < p) →
    (∀ j7 j9 j10 j11, E.nx [a0, a1, .dat (.int p), a3, .dat (eII rows), .dat (eII others), .dat (.int (c + sumS p rows others l)), j7, a8, j9, j10, j11] m) →
    forD (tName 7) (b2_law sp__law_state sp__law_pick sp_draw sp__law_rows sp__law_other (liftSp sp_same_bag) sp__law_due (liftSp sp_bag_blame) (liftSp sp_most_same)) E (l.map fun k : Nat => D.int (0 + (k : Int) * 1)) [a0, a1, .dat (.int p), a3, .dat (eII rows), .dat (eII others), .dat (.int c), j7, a8, j9, j10, j11] m
  | [], c, j7, j9, j10, j11, _, h => by
    have := h j7 j9 j10 j11
    rw [show sumS p rows others [] = 0 from rfl, Int.add_zero] at this
    exact this
  | k :: l, c, j7, j9, j10, j11, hlt, h => by
    have hk := hlt k (List.mem_cons_self ..)
    have ek : (0 + (k : Int) * 1) = (k : Int) := by omega
    rw [List.map_cons, ek]
    walk_at "w"
    refine ⟨⟨by omega, by omega⟩, ?_⟩
    walk_at "w"
    refine in_loop hpz h2 h3 hlen hn (by omega) hk (List.range p.toNat) c _ _ _ (fun t ht => by have := List.mem_range.mp ht; omega) fun j9 j10 j11 => ?_
    refine out_loop hpz h2 h3 hlen hn l _ _ _ _ _ (fun s hs => hlt s (List.mem_cons_of_mem _ hs)) fun j7 j9 j10 j11 => ?_
    have hh := h j7 j9 j10 j11
    rw [sumS_cons, ← Int.add_assoc] at hh
    exact hh
theorem dvd_of_mod {p a b : Int} (h : a % p = b % p) : p ∣ a - b := by
  refine ⟨a / p - b / p, ?_⟩
  have h1 := Int.mul_ediv_add_emod a p
  have h2 := Int.mul_ediv_add_emod b p
  rw [Int.mul_sub]
  omega
theorem sum_le (f : Nat → Nat) (q : Nat) : ∀ l : List Nat, (∀ s ∈ l, f s ≤ q) → (l.map f).sum ≤ l.length * q
  | [], _ => by simp
  | s :: l, h => by
    have h1 := h s (List.mem_cons_self ..)
    have h2 := sum_le f q l fun s hs => h s (List.mem_cons_of_mem _ hs)
    rw [List.map_cons, List.sum_cons, List.length_cons, Nat.add_mul]
    omega
theorem sum_mono (f g : Nat → Nat) : ∀ l : List Nat, (∀ s ∈ l, f s ≤ g s) → (l.map f).sum ≤ (l.map g).sum
  | [], _ => by simp
  | s :: l, h => by
    have h1 := h s (List.mem_cons_self ..)
    have h2 := sum_mono f g l fun s hs => h s (List.mem_cons_of_mem _ hs)
    rw [List.map_cons, List.sum_cons, List.map_cons, List.sum_cons]
    omega
theorem sumS_le {p many width : Int} {rows others : List (List Int)} (hpz : B77.Pr p) (hw0 : 1 ≤ width) (hw1 : width ≤ 3) (hr : okRows many width p rows) (ho : okRows many width p others) : sumS p rows others (List.range p.toNat) ≤ min (p * p) (p * many * width) := by
  have hp := hpz.1
  have hl : rows.length = others.length := by have := hr.1; have := ho.1; omega
  have e1 : sumS p rows others (List.range p.toNat) ≤ p * p := by
    have := sum_le (fun s : Nat => ((List.range p.toNat).filter fun t : Nat => good p rows others (s : Int) (t : Int)).length) p.toNat (List.range p.toNat) fun s _ => by
      have := List.length_filter_le (fun t : Nat => good p rows others (s : Int) (t : Int)) (List.range p.toNat)
      rwa [List.length_range] at this
    rw [List.length_range] at this
    unfold sumS
    have h3 : ((p.toNat * p.toNat : Nat) : Int) = p * p := by rw [Int.natCast_mul, Int.toNat_of_nonneg (by omega)]
    omega
  have e2 : sumS p rows others (List.range p.toNat) ≤ p * many * width := by
    by_cases hpm : List.Perm rows others
    · have : sumS p rows others (List.range p.toNat) ≤ 0 := by
        have := sum_le (fun s : Nat => ((List.range p.toNat).filter fun t : Nat => good p rows others (s : Int) (t : Int)).length) 0 (List.range p.toNat) fun s _ => by
          refine Nat.le_of_eq (List.length_eq_zero_iff.mpr (List.filter_eq_nil_iff.mpr fun t _ q => ?_))
          unfold good at q
          rw [decide_eq_true hpm] at q
          cases q
        unfold sumS
        omega
      have h4 : 0 ≤ p * many * width := Int.mul_nonneg (Int.mul_nonneg (by omega) (by have := hr.1; omega)) (by omega)
      omega
    · have hb := B77.same_bound hpz (w := width.toNat) (by omega) (by omega) hl (fun r h => ⟨by have := (hr.2 r h).1; omega, (hr.2 r h).2⟩) (fun r h => ⟨by have := (ho.2 r h).1; omega, (ho.2 r h).2⟩) hpm
      have hm := sum_mono (fun s : Nat => ((List.range p.toNat).filter fun t : Nat => good p rows others (s : Int) (t : Int)).length) (fun s : Nat => ((List.range p.toNat).filter fun t : Nat => decide (p ∣ prodS (s : Int) (t : Int) rows - prodS (s : Int) (t : Int) others)).length) (List.range p.toNat) fun s _ => B77.filter_imp _ _ _ fun t _ q => by
        unfold good at q
        rw [Bool.and_eq_true] at q
        exact decide_eq_true (dvd_of_mod (of_decide_eq_true q.2))
      have h3 : ((p.toNat * (rows.length * width.toNat) : Nat) : Int) = p * many * width := by
        rw [Int.natCast_mul, Int.natCast_mul, Int.toNat_of_nonneg (by omega), Int.toNat_of_nonneg (by omega), hr.1, Int.mul_assoc]
      unfold sumS
      omega
  exact Int.le_min.mpr ⟨e1, e2⟩
section
variable {P : Program} {w : World} {K : PySem.W.Frag} {mg : Str → Option Value} {base : Heap}
theorem d_law (T : Txt K mg) : DefOk P w K mg base RD 5 "law" ["_law_script"] sp_law := by
  refine dv_law T (d__law_state T) (d__law_pick T) (d__law_draw T) (d__law_rows T) (d__law_other T) ((d_same_bag T).lift RD) (d__law_due T) ((d_bag_blame T).lift RD) ((d_most_same T).lift RD) fun ds m Q Z hl h => ?_
  obtain ⟨ns, rfl, rfl, hn, hq⟩ := h
  walk_at "r"
  refine ⟨ns, rfl, hn, rfl, fun s c m hd => ?_⟩
  walk_at "r"
  refine ⟨s, c, _, rfl, hd, by decide, by decide, fun d hm => ?_, fun d hm => ?_⟩
  · simp only [List.mem_cons, List.not_mem_nil, or_false] at hm
    rcases hm with rfl | rfl | rfl | rfl | rfl | rfl <;> trivial
  obtain ⟨p, rfl, hpz, hp13⟩ : ∃ p : Int, d = .int p ∧ B77.Pr p ∧ p ≤ 13 := by
    simp only [List.mem_cons, List.not_mem_nil, or_false] at hm
    rcases hm with rfl | rfl | rfl | rfl | rfl | rfl
    · exact ⟨_, rfl, pr_nat 2 (by decide) (by decide), by decide⟩
    · exact ⟨_, rfl, pr_nat 3 (by decide) (by decide), by decide⟩
    · exact ⟨_, rfl, pr_nat 5 (by decide) (by decide), by decide⟩
    · exact ⟨_, rfl, pr_nat 7 (by decide) (by decide), by decide⟩
    · exact ⟨_, rfl, pr_nat 11 (by decide) (by decide +kernel), by decide⟩
    · exact ⟨_, rfl, pr_nat 13 (by decide) (by decide +kernel), by decide⟩
  have h2 := hpz.1
  walk_at "r"
  refine ⟨s, c, 3, rfl, hd, by decide, by decide, fun wd hw0 hw1 => ?_⟩
  walk_at "r"
  refine ⟨s, c, 6, rfl, hd, by decide, by decide, fun mn hm0 hm1 => ?_⟩
  walk_at "r"
  refine ⟨s, c, 1 + mn, 1 + wd, p, rfl, hd, by omega, by omega, by omega, by omega, by omega, by omega, fun rows hr => ?_⟩
  walk_at "r"
  refine ⟨s, c, rows, 1 + mn, 1 + wd, p, rfl, hd, by omega, by omega, by omega, by omega, by omega, by omega, hr, fun others m1 hd1 ho => ?_⟩
  have hr1 := hr.1
  have ho1 := ho.1
  walk_at "r"
  refine ⟨⟨by omega, by omega⟩, ?_⟩
  walk_at "w"
  refine out_loop hpz h2 (by omega) (by omega) (by omega) (List.range p.toNat) 0 _ _ _ _ (fun t ht => by have := List.mem_range.mp ht; omega) fun j7 j9 j10 j11 => ?_
  have hS := sumS_le hpz (by omega) (by omega) hr ho
  rw [Int.zero_add]
  generalize sumS p rows others (List.range p.toNat) = tot at hS
  walk_at "r"
  refine ⟨_, _, _, rfl, by omega, by simp only [List.length_map]; omega, by omega, by omega, by omega, by omega, ?_⟩
  simp only [List.length_map]
  walk_at "r"
  have z : (if p * (rows.length : Int) * (1 + wd) < p * p then p * (rows.length : Int) * (1 + wd) else p * p) = min (p * p) (p * (rows.length : Int) * (1 + wd)) := by
    rw [Int.min_def]
    split <;> split <;> omega
  have hS' : tot ≤ min (p * p) (p * (rows.length : Int) * (1 + wd)) := by rw [hr1]; exact hS
  have el : ((rows.map eI).length : Int) = (rows.length : Int) := by rw [List.length_map]
  rw [el, z, decide_eq_true rfl]
  walk_at "r"
  have e9 : decide (tot ≤ min (p * p) (p * (rows.length : Int) * (1 + wd))) = true := decide_eq_true hS'
  rw [e9]
  exact hq m1
end
end G77


open PySem PySem.W PyProof.Rows in
set_option maxRecDepth 100000 in
set_option maxHeartbeats 0 in
theorem PySem.Challenge.cw_layerask_k77_whole_counts_of_bags_holds : PySem.Challenge.rw_layerask_k77_whole_counts_of_bags.Holds := by
  w_on; o_law; k_head; (case hw => w_witness2)
  k_fill
  refine DL.law_walk (l := PySem.Challenge.rw_layerask_k77_whole_counts_of_bags) (k := 5) (x := "_law_script") rfl rfl ⟨rfl, by decide, by decide⟩ (fun w h Y => PySem.W.kIn_of Y) ?F
  case F =>
    intro w mg h KX G base _ _
    refine G77.d_law ?T
    refine' ⟨DL.top_mk KX G ?a0 ?l0 ?c0 ?k0, DL.top_mk KX G ?a1 ?l1 ?c1 ?k1, DL.top_mk KX G ?a2 ?l2 ?c2 ?k2, DL.top_mk KX G ?a3 ?l3 ?c3 ?k3, DL.top_mk KX G ?a4 ?l4 ?c4 ?k4, DL.top_mk KX G ?a5 ?l5 ?c5 ?k5, DL.top_mk KX G ?a6 ?l6 ?c6 ?k6, DL.top_mk KX G ?a7 ?l7 ?c7 ?k7, DL.top_mk KX G ?a8 ?l8 ?c8 ?k8, DL.top_mk KX G ?a9 ?l9 ?c9 ?k9, DL.top_mk KX G ?a10 ?l10 ?c10 ?k10, DL.top_mk KX G ?a11 ?l11 ?c11 ?k11, DL.top_mk KX G ?a12 ?l12 ?c12 ?k12, DL.top_mk KX G ?a13 ?l13 ?c13 ?k13, DL.top_mk KX G ?a14 ?l14 ?c14 ?k14, DL.top_mk KX G ?a15 ?l15 ?c15 ?k15, DL.top_mk KX G ?a16 ?l16 ?c16 ?k16, PySem.W.mg_none_of KX G ?z0, PySem.W.mg_none_of KX G ?z1, PySem.W.mg_none_of KX G ?z2, PySem.W.mg_none_of KX G ?z3, PySem.W.mg_none_of KX G ?z4, PySem.W.mg_none_of KX G ?z5, PySem.W.mg_none_of KX G ?z6, PySem.W.mg_none_of KX G ?z7⟩
    (case a0 => k_is)
    (case l0 => k_is)
    (case c0 => k_is)
    (case k0 => k_is)
    (case a1 => k_is)
    (case l1 => k_is)
    (case c1 => k_is)
    (case k1 => k_is)
    (case a2 => k_is)
    (case l2 => k_is)
    (case c2 => k_is)
    (case k2 => k_is)
    (case a3 => k_is)
    (case l3 => k_is)
    (case c3 => k_is)
    (case k3 => k_is)
    (case a4 => k_is)
    (case l4 => k_is)
    (case c4 => k_is)
    (case k4 => k_is)
    (case a5 => k_is)
    (case l5 => k_is)
    (case c5 => k_is)
    (case k5 => k_is)
    (case a6 => k_is)
    (case l6 => k_is)
    (case c6 => k_is)
    (case k6 => k_is)
    (case a7 => k_is)
    (case l7 => k_is)
    (case c7 => k_is)
    (case k7 => k_is)
    (case a8 => k_is)
    (case l8 => k_is)
    (case c8 => k_is)
    (case k8 => k_is)
    (case a9 => k_is)
    (case l9 => k_is)
    (case c9 => k_is)
    (case k9 => k_is)
    (case a10 => k_is)
    (case l10 => k_is)
    (case c10 => k_is)
    (case k10 => k_is)
    (case a11 => k_is)
    (case l11 => k_is)
    (case c11 => k_is)
    (case k11 => k_is)
    (case a12 => k_is)
    (case l12 => k_is)
    (case c12 => k_is)
    (case k12 => k_is)
    (case a13 => k_is)
    (case l13 => k_is)
    (case c13 => k_is)
    (case k13 => k_is)
    (case a14 => k_is)
    (case l14 => k_is)
    (case c14 => k_is)
    (case k14 => k_is)
    (case a15 => k_is)
    (case l15 => k_is)
    (case c15 => k_is)
    (case k15 => k_is)
    (case a16 => k_is)
    (case l16 => k_is)
    (case c16 => k_is)
    (case k16 => k_is)
    (case z0 => k_is)
    (case z1 => k_is)
    (case z2 => k_is)
    (case z3 => k_is)
    (case z4 => k_is)
    (case z5 => k_is)
    (case z6 => k_is)
    (case z7 => k_is)
