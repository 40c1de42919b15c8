import PyProof.Rows.All
import Wide.All
import OpenK.AllK
import Wide.FinOn
import HandS.ForMost
import HandS.ForExc
import HandS.TryMany
import HandS.IsInst
import HandS.Deep
import HandS.TupAny
import HandS.Wide
import HandS.ExcIs
import HandS.Walk
import HandS.More
import HandS.HeadHook1
import HandS.HeadHook2
import HandS.HeadEnd
import HandS.HeadHook4
import HandS.HeadNt
import HandS.Head2
import PySem.Challenge.RW_warden_k01_heads_told
set_option Elab.async false
set_option linter.all false
set_option maxRecDepth 100000
set_option maxHeartbeats 8000000
/-! Mw1: plain data D as values of the layer: what stands for what. -/
namespace Mw
open PySem PySem.Spec PyProof.Rows L2

abbrev D := PyData
abbrev KF := PySem.W.Frag

def kD : Key → D
  | .inl i => .int i
  | .inr x => .str x

mutual
inductive Rp (K : KF) (G : Hp) : V → D → Prop
  | non : Rp K G .non .none
  | bl (b : Bool) : Rp K G (.bl b) (.bool b)
  | int (i : Int) : Rp K G (.int i) (.int i)
  | str (x : Str) : Rp K G (.str x) (.str x)
  | lst {a : Addr} {vs : List V} {ds : List D} : SqL K G a vs → RpA K G vs ds → Rp K G (.ref a) (.list ds)
  | tup {a : Addr} {vs : List V} {ds : List D} : SqT K G a vs → RpA K G vs ds → Rp K G (.ref a) (.tuple ds)
  | dic {a : Addr} {kvs : List (Key × V)} {ds : List (D × D)} : G a = some (.dK kvs) → RpK K G kvs ds → Rp K G (.ref a) (.dict ds)
inductive RpA (K : KF) (G : Hp) : List V → List D → Prop
  | nil : RpA K G [] []
  | cons {v : V} {vs : List V} {d : D} {ds : List D} : Rp K G v d → RpA K G vs ds → RpA K G (v :: vs) (d :: ds)
inductive RpK (K : KF) (G : Hp) : List (Key × V) → List (D × D) → Prop
  | nil : RpK K G [] []
  | cons {k : Key} {v : V} {vs : List (Key × V)} {d : D} {ds : List (D × D)} : Rp K G v d → RpK K G vs ds → RpK K G ((k, v) :: vs) ((kD k, d) :: ds)
end

/-- more is known -/
abbrev Le (G G' : Hp) : Prop := Same G G'
theorem Le.rfl' {G : Hp} : Le G G := fun _ _ h => h

theorem rd_le {G G' : Hp} {a : Addr} {u : HO} (e : Le G G') (h : Rd G a u) : Rd G' a u := by
  rcases h with h | ⟨o, h⟩
  · exact .inl (e _ _ h)
  · exact .inr ⟨o, e _ _ h⟩
theorem sqL_le {K : KF} {G G' : Hp} {a : Addr} {xs : List V} (e : Le G G') (h : SqL K G a xs) : SqL K G' a xs := by
  rcases h with h | h
  · exact .inl (rd_le e h)
  · exact .inr h
theorem sqT_le {K : KF} {G G' : Hp} {a : Addr} {xs : List V} (e : Le G G') (h : SqT K G a xs) : SqT K G' a xs := by
  rcases h with (h | ⟨o, h⟩) | h
  · exact .inl (.inl (e _ _ h))
  · exact .inl (.inr ⟨o, e _ _ h⟩)
  · exact .inr h

mutual
theorem Rp.mono {K : KF} {G G' : Hp} (e : Le G G') : ∀ (d : D) (v : V), Rp K G v d → Rp K G' v d
  | .none, _, h => by cases h; exact .non
  | .bool b, _, h => by cases h; exact .bl b
  | .int i, _, h => by cases h; exact .int i
  | .str x, _, h => by cases h; exact .str x
  | .list ds, _, h => by
    cases h with
    | lst h1 h2 => exact .lst (sqL_le e h1) (RpA.mono e ds _ h2)
  | .tuple ds, _, h => by
    cases h with
    | tup h1 h2 => exact .tup (sqT_le e h1) (RpA.mono e ds _ h2)
  | .dict ds, _, h => by
    cases h with
    | dic h1 h2 => exact .dic (e _ _ h1) (RpK.mono e ds _ h2)
theorem RpA.mono {K : KF} {G G' : Hp} (e : Le G G') : ∀ (ds : List D) (vs : List V), RpA K G vs ds → RpA K G' vs ds
  | [], _, h => by cases h; exact .nil
  | d :: ds, _, h => by
    cases h with
    | cons h1 h2 => exact .cons (Rp.mono e d _ h1) (RpA.mono e ds _ h2)
theorem RpK.mono {K : KF} {G G' : Hp} (e : Le G G') : ∀ (ds : List (D × D)) (vs : List (Key × V)), RpK K G vs ds → RpK K G' vs ds
  | [], _, h => by cases h; exact .nil
  | (_, _) :: ds, _, h => by
    cases h with
    | cons h1 h2 => exact .cons (Rp.mono e _ _ h1) (RpK.mono e ds _ h2)
end
theorem Rp.up {K : KF} {G G' : Hp} {v : V} {d : D} (h : Rp K G v d) (e : Le G G') : Rp K G' v d := Rp.mono e d v h
theorem RpA.up {K : KF} {G G' : Hp} {v : List V} {d : List D} (h : RpA K G v d) (e : Le G G') : RpA K G' v d := RpA.mono e d v h

theorem RpA.length {K : KF} {G : Hp} : ∀ {vs : List V} {ds : List D}, RpA K G vs ds → vs.length = ds.length
  | _, _, .nil => rfl
  | _, _, .cons _ t => by rw [List.length_cons, List.length_cons, RpA.length t]
theorem RpA.get {K : KF} {G : Hp} : ∀ {vs : List V} {ds : List D} {i : Nat} {d : D}, RpA K G vs ds → ds[i]? = some d → ∃ v, vs[i]? = some v ∧ Rp K G v d
  | _, _, _, _, .nil, e => by simp at e
  | _, _, 0, _, .cons r _, e => by simp at e; subst e; exact ⟨_, rfl, r⟩
  | _, _, i + 1, d, .cons _ t, e => by
    obtain ⟨u, h1, h2⟩ := RpA.get (i := i) (d := d) t (by simpa using e)
    exact ⟨u, by simpa using h1, h2⟩
theorem RpA.getV {K : KF} {G : Hp} : ∀ {vs : List V} {ds : List D} {i : Nat} {v : V}, RpA K G vs ds → vs[i]? = some v → ∃ d, ds[i]? = some d ∧ Rp K G v d
  | _, _, _, _, .nil, e => by simp at e
  | _, _, 0, _, .cons r _, e => by simp at e; subst e; exact ⟨_, rfl, r⟩
  | _, _, i + 1, d, .cons _ t, e => by
    obtain ⟨u, h1, h2⟩ := RpA.getV (i := i) (v := d) t (by simpa using e)
    exact ⟨u, by simpa using h1, h2⟩
theorem RpA.append {K : KF} {G : Hp} : ∀ {xs ys : List V} {us ws : List D}, RpA K G xs us → RpA K G ys ws → RpA K G (xs ++ ys) (us ++ ws)
  | _, _, _, _, .nil, s => s
  | _, _, _, _, .cons r t, s => .cons r (RpA.append t s)
theorem RpA.take {K : KF} {G : Hp} : ∀ {xs : List V} {us : List D} (n : Nat), RpA K G xs us → RpA K G (xs.take n) (us.take n)
  | _, _, 0, _ => .nil
  | _, _, _ + 1, .nil => .nil
  | _, _, n + 1, .cons r t => .cons r (RpA.take n t)
theorem RpA.drop {K : KF} {G : Hp} : ∀ {xs : List V} {us : List D} (n : Nat), RpA K G xs us → RpA K G (xs.drop n) (us.drop n)
  | _, _, 0, r => r
  | _, _, _ + 1, .nil => .nil
  | _, _, n + 1, .cons _ t => RpA.drop n t
theorem RpA.one {K : KF} {G : Hp} {v : V} {d : D} (h : Rp K G v d) : RpA K G [v] [d] := .cons h .nil
theorem RpA.rev {K : KF} {G : Hp} : ∀ {xs : List V} {us : List D}, RpA K G xs us → RpA K G xs.reverse us.reverse
  | _, _, .nil => .nil
  | _, _, .cons r t => by
    rw [List.reverse_cons, List.reverse_cons]
    exact (RpA.rev t).append (.one r)
theorem RpA.setAt {K : KF} {G : Hp} {v : V} {d : D} (r : Rp K G v d) : ∀ {xs : List V} {us : List D} (i : Nat), RpA K G xs us → RpA K G (xs.set i v) (us.set i d)
  | _, _, _, .nil => .nil
  | _, _, 0, .cons _ t => .cons r t
  | _, _, i + 1, .cons q t => .cons q (RpA.setAt r i t)

/-- texts -/
theorem RpA.strs {K : KF} {G : Hp} : ∀ {ys : List Str}, RpA K G (ys.map V.str) (ys.map PyData.str)
  | [] => .nil
  | _ :: r => .cons (.str _) (RpA.strs (ys := r))
theorem RpA.ints {K : KF} {G : Hp} : ∀ {ys : List Int}, RpA K G (ys.map V.int) (ys.map PyData.int)
  | [] => .nil
  | _ :: r => .cons (.int _) (RpA.ints (ys := r))
theorem RpA.bools {K : KF} {G : Hp} : ∀ {ys : List Bool}, RpA K G (ys.map V.bl) (ys.map PyData.bool)
  | [] => .nil
  | _ :: r => .cons (.bl _) (RpA.bools (ys := r))

/-! ### no dict within -/
mutual
def nod : D → Bool
  | .none | .bool _ | .int _ | .str _ => true
  | .list xs | .tuple xs => nodA xs
  | .dict _ => false
def nodA : List D → Bool
  | [] => true
  | x :: xs => nod x && nodA xs
end
mutual
theorem eqv_self : ∀ d : D, nod d = true → PyData.eqv d d = true
  | .none, _ => by simp [PyData.eqv]
  | .bool _, _ => by simp [PyData.eqv]
  | .int _, _ => by simp [PyData.eqv]
  | .str _, _ => by simp [PyData.eqv]
  | .list xs, h => by
    simp only [PyData.eqv]
    exact eqvA_self xs (by simpa [nod] using h)
  | .tuple xs, h => by
    simp only [PyData.eqv]
    exact eqvA_self xs (by simpa [nod] using h)
  | .dict _, h => by simp [nod] at h
theorem eqvA_self : ∀ d : List D, nodA d = true → PyData.eqvAll d d = true
  | [], _ => by simp [PyData.eqvAll]
  | x :: xs, h => by
    have h' : nod x = true ∧ nodA xs = true := by simpa [nodA] using h
    simp [PyData.eqvAll, eqv_self x h'.1, eqvA_self xs h'.2]
end

/-! ### one value stands for one datum, up to what it is read as -/
section
variable {X : Cx} {pins : List (Addr × Obj)} {σ : L2.St} {H : Hp} {s : Shared}
theorem list_tuple_no (I : Inv X pins σ H s) {a : Addr} {xs ys : List V} (h : SqL X.K H a xs) (h' : SqT X.K H a ys) : False := by
  obtain ⟨_, _, ⟨o, n, e, c, _⟩, _⟩ := I.list h
  obtain ⟨_, _, ⟨o', e', c', _⟩, _⟩ := I.tuple h'
  rw [e] at e'
  cases e'
  rw [c] at c'
  exact absurd c' (by decide)
mutual
theorem Rp.unique (I : Inv X pins σ H s) : ∀ (d d' : D) (v : V), nod d = true → nod d' = true → Rp X.K H v d → Rp X.K H v d' → d = d'
  | .none, _, _, _, _, h, h' => by cases h; cases h'; rfl
  | .bool _, _, _, _, _, h, h' => by cases h; cases h'; rfl
  | .int _, _, _, _, _, h, h' => by cases h; cases h'; rfl
  | .str _, _, _, _, _, h, h' => by cases h; cases h'; rfl
  | .list ds, _, _, n, n', h, h' => by
    cases h with
    | lst h1 h2 =>
      cases h' with
      | lst k1 k2 =>
        have e := I.list_inj h1 k1
        subst e
        rw [RpA.unique I ds _ _ (by simpa [nod] using n) (by simpa [nod] using n') h2 k2]
      | tup k1 k2 => exact (list_tuple_no I h1 k1).elim
      | dic k1 k2 => simp [nod] at n'
  | .tuple ds, _, _, n, n', h, h' => by
    cases h with
    | tup h1 h2 =>
      cases h' with
      | lst k1 k2 => exact (list_tuple_no I k1 h1).elim
      | tup k1 k2 =>
        have e := I.tuple_inj h1 k1
        subst e
        rw [RpA.unique I ds _ _ (by simpa [nod] using n) (by simpa [nod] using n') h2 k2]
      | dic k1 k2 => simp [nod] at n'
  | .dict ds, _, _, n, _, _, _ => by simp [nod] at n
theorem RpA.unique (I : Inv X pins σ H s) : ∀ (d d' : List D) (v : List V), nodA d = true → nodA d' = true → RpA X.K H v d → RpA X.K H v d' → d = d'
  | [], _, _, _, _, h, h' => by cases h; cases h'; rfl
  | d :: ds, _, _, n, n', h, h' => by
    cases h with
    | cons h1 h2 =>
      cases h' with
      | cons k1 k2 =>
        have m : nod d = true ∧ nodA ds = true := by simpa [nodA] using n
        have m' := n'
        simp only [nodA, Bool.and_eq_true] at m'
        rw [Rp.unique I d _ _ m.1 m'.1 h1 k1, RpA.unique I ds _ _ m.2 m'.2 h2 k2]
end
end
end Mw
/-! Mw2: == of plain data, of any texts, as deep as there is room. -/
namespace Mw
open PySem PySem.Spec PyProof.Rows L2
open PySem.SeqAt (EqAt RcAt pairEq)
section
variable {X : Cx} {pins : List (Addr × Obj)} {σ : L2.St} {H : Hp} {s : Shared}
theorem isL (I : Inv X pins σ H s) {a : Addr} {vs : List V} {ds : List D} (h : SqL X.K H a vs) (q : RpA X.K H vs ds) :
    ∃ its : List Value, Vals vs its ∧ s.heap.IsList a its.toArray ∧ its.length = ds.length := by
  obtain ⟨its, r, ⟨o, n, e, c, _, d⟩, _⟩ := I.list h
  exact ⟨its, r, ⟨o, e, c, n, d⟩, by rw [← r.length, q.length]⟩
theorem isT (I : Inv X pins σ H s) {a : Addr} {vs : List V} {ds : List D} (h : SqT X.K H a vs) (q : RpA X.K H vs ds) :
    ∃ its : List Value, Vals vs its ∧ s.heap.IsTuple a its.toArray ∧ its.length = ds.length := by
  obtain ⟨its, r, ⟨o, e, c, n, d⟩, _⟩ := I.tuple h
  exact ⟨its, r, ⟨o, e, c, n, d⟩, by rw [← r.length, q.length]⟩
theorem dep_pos_l (xs : List D) : 1 ≤ PyData.depth (.list xs) := by simp [PyData.depth]
theorem dep_pos_t (xs : List D) : 1 ≤ PyData.depth (.tuple xs) := by simp [PyData.depth]
theorem at_of {xs : List Value} {j : Nat} (h : j < xs.toArray.size) (h' : j < xs.length) : xs.toArray[j] = xs[j] := by simp

mutual
theorem eqAtR (I : Inv X pins σ H s) : ∀ (d e : D) (A : Around) (x y : V) (u v : Value), Rp X.K H x d → Rp X.K H y e → RelV x u → RelV y v → nod d = true → nod e = true →
    A.units + min d.depth e.depth < cLine → EqAt A s u v (PyData.eqv d e)
  | .none, e, A, _, _, _, _, hd, he, rx, ry, nd, ne, hu => by
    have hu0 : A.units < cLine := by omega
    cases hd
    cases rx
    cases he with
    | non => cases ry; exact EqAt.same _
    | bl b => cases ry; exact EqAt.none_bool b
    | int i => obtain ⟨t, rfl⟩ := ry; exact EqAt.none_int i t
    | str i => obtain ⟨t, rfl⟩ := ry; exact EqAt.none_str i t
    | lst k q => cases ry; obtain ⟨_, _, z, _⟩ := isL I k q; exact EqAt.none_list z hu0
    | tup k q => cases ry; obtain ⟨_, _, z, _⟩ := isT I k q; exact EqAt.none_tuple z hu0
    | dic => simp [nod] at ne
  | .bool c, e, A, _, _, _, _, hd, he, rx, ry, nd, ne, hu => by
    have hu0 : A.units < cLine := by omega
    cases hd
    cases rx
    cases he with
    | non => cases ry; exact EqAt.bool_none c
    | bl b => cases ry; exact EqAt.bool_bool c b
    | int i => obtain ⟨t, rfl⟩ := ry; exact EqAt.bool_int c i t
    | str i => obtain ⟨t, rfl⟩ := ry; exact EqAt.bool_str c i t
    | lst k q => cases ry; obtain ⟨_, _, z, _⟩ := isL I k q; exact EqAt.bool_list c z hu0
    | tup k q => cases ry; obtain ⟨_, _, z, _⟩ := isT I k q; exact EqAt.bool_tuple c z hu0
    | dic => simp [nod] at ne
  | .int c, e, A, _, _, _, _, hd, he, rx, ry, nd, ne, hu => by
    have hu0 : A.units < cLine := by omega
    cases hd
    obtain ⟨t0, rfl⟩ := rx
    cases he with
    | non => cases ry; exact EqAt.int_none c t0
    | bl b => cases ry; exact EqAt.int_bool c t0 b
    | int i => obtain ⟨t, rfl⟩ := ry; exact EqAt.int_int c t0 i t
    | str i => obtain ⟨t, rfl⟩ := ry; exact EqAt.int_str c t0 i t
    | lst k q => cases ry; obtain ⟨_, _, z, _⟩ := isL I k q; exact EqAt.int_list c t0 z hu0
    | tup k q => cases ry; obtain ⟨_, _, z, _⟩ := isT I k q; exact EqAt.int_tuple c t0 z hu0
    | dic => simp [nod] at ne
  | .str c, e, A, _, _, _, _, hd, he, rx, ry, nd, ne, hu => by
    have hu0 : A.units < cLine := by omega
    cases hd
    obtain ⟨t0, rfl⟩ := rx
    cases he with
    | non => cases ry; exact EqAt.str_none c t0
    | bl b => cases ry; exact EqAt.str_bool c t0 b
    | int i => obtain ⟨t, rfl⟩ := ry; exact EqAt.str_int c t0 i t
    | str i => obtain ⟨t, rfl⟩ := ry; exact EqAt.str_str c t0 i t
    | lst k q => cases ry; obtain ⟨_, _, z, _⟩ := isL I k q; exact EqAt.str_list c t0 z hu0
    | tup k q => cases ry; obtain ⟨_, _, z, _⟩ := isT I k q; exact EqAt.str_tuple c t0 z hu0
    | dic => simp [nod] at ne
  | .list xs, e, A, x, y, u, v, hd, he, rx, ry, nd, ne, hu => by
    have hu0 : A.units < cLine := by omega
    have hd0 := hd
    cases hd with
    | @lst a vs _ k0 q0 =>
      cases rx
      obtain ⟨its, r0, z0, l0⟩ := isL I k0 q0
      cases he with
      | non => cases ry; exact EqAt.list_none z0 hu0
      | bl b => cases ry; exact EqAt.list_bool b z0 hu0
      | int i => obtain ⟨t, rfl⟩ := ry; exact EqAt.list_int i t z0 hu0
      | str i => obtain ⟨t, rfl⟩ := ry; exact EqAt.list_str i t z0 hu0
      | tup k q => cases ry; obtain ⟨_, _, z, _⟩ := isT I k q; exact EqAt.list_tuple z0 z hu0
      | dic => simp [nod] at ne
      | @lst b ws ys k q =>
        cases ry
        obtain ⟨jts, r, z, l⟩ := isL I k q
        show EqAt A s (.ref a) (.ref b) (PyData.eqvAll xs ys)
        by_cases hab : a = b
        · subst hab
          have eq1 : PyData.list xs = PyData.list ys := Rp.unique I _ _ _ nd ne hd0 (.lst k q)
          injection eq1 with eq1
          subst eq1
          rw [eqvA_self xs (by simpa [nod] using nd)]
          exact EqAt.same _
        · by_cases hsz : xs.length = ys.length
          · rw [← PySem.SeqAt.eqvAll_same_length hsz, ← l0, ← List.size_toArray]
            refine EqAt.of_refs hab (RcAt.lists z0 z (by simp; omega) hu0 fun j j1 j2 => ?_)
            have w := eqAtRs I xs ys A.in1 _ _ _ _ q0 q r0 r (by simpa [nod] using nd) (by simpa [nod] using ne)
              (by
                have e1 : A.in1.units = A.units + 1 := rfl
                have e2 : PyData.depth (.list xs) = PyData.depthAll xs + 1 := by simp [PyData.depth]
                have e3 : PyData.depth (.list ys) = PyData.depthAll ys + 1 := by simp [PyData.depth]
                omega) j (by simpa using j1) (by simpa using j2)
            simpa using w
          · rw [PySem.SeqAt.eqvAll_other_length hsz]
            exact EqAt.of_refs hab (RcAt.lists_lengths z0 z (by simp; omega) hu0)
  | .tuple xs, e, A, x, y, u, v, hd, he, rx, ry, nd, ne, hu => by
    have hu0 : A.units < cLine := by omega
    have hd0 := hd
    cases hd with
    | @tup a vs _ k0 q0 =>
      cases rx
      obtain ⟨its, r0, z0, l0⟩ := isT I k0 q0
      cases he with
      | non => cases ry; exact EqAt.tuple_none z0 hu0
      | bl b => cases ry; exact EqAt.tuple_bool b z0 hu0
      | int i => obtain ⟨t, rfl⟩ := ry; exact EqAt.tuple_int i t z0 hu0
      | str i => obtain ⟨t, rfl⟩ := ry; exact EqAt.tuple_str i t z0 hu0
      | lst k q => cases ry; obtain ⟨_, _, z, _⟩ := isL I k q; exact EqAt.tuple_list z0 z hu0
      | dic => simp [nod] at ne
      | @tup b ws ys k q =>
        cases ry
        obtain ⟨jts, r, z, l⟩ := isT I k q
        show EqAt A s (.ref a) (.ref b) (PyData.eqvAll xs ys)
        by_cases hab : a = b
        · subst hab
          have eq1 : PyData.tuple xs = PyData.tuple ys := Rp.unique I _ _ _ nd ne hd0 (.tup k q)
          injection eq1 with eq1
          subst eq1
          rw [eqvA_self xs (by simpa [nod] using nd)]
          exact EqAt.same _
        · rw [← PySem.SeqAt.eqvAll_eq xs ys, ← l0, ← l, ← List.size_toArray, ← List.size_toArray]
          refine EqAt.of_refs hab (RcAt.tuples z0 z hu0 fun j j1 j2 => ?_)
          have w := eqAtRs I xs ys A.in1 _ _ _ _ q0 q r0 r (by simpa [nod] using nd) (by simpa [nod] using ne)
              (by
                have e1 : A.in1.units = A.units + 1 := rfl
                have e2 : PyData.depth (.tuple xs) = PyData.depthAll xs + 1 := by simp [PyData.depth]
                have e3 : PyData.depth (.tuple ys) = PyData.depthAll ys + 1 := by simp [PyData.depth]
                omega) j (by simpa using j1) (by simpa using j2)
          simpa using w
  | .dict _, _, _, _, _, _, _, _, _, _, _, nd, _, _ => by simp [nod] at nd
theorem eqAtRs (I : Inv X pins σ H s) : ∀ (ds es : List D) (A : Around) (xs ys : List V) (us vs : List Value), RpA X.K H xs ds → RpA X.K H ys es → Vals xs us → Vals ys vs → nodA ds = true → nodA es = true →
    A.units + min (PyData.depthAll ds) (PyData.depthAll es) < cLine → ∀ j (h1 : j < us.length) (h2 : j < vs.length), EqAt A s us[j] vs[j] (pairEq ds es j)
  | [], _, _, _, _, _, _, hd, _, r, _, _, _, _, j, h1, _ => by
    cases hd
    cases r
    exact absurd h1 (Nat.not_lt_zero _)
  | _ :: _, [], _, _, _, _, _, _, he, _, r, _, _, _, j, _, h2 => by
    cases he
    cases r
    exact absurd h2 (Nat.not_lt_zero _)
  | d :: ds, e :: es, A, _, _, _, _, hd, he, r, r', nd, ne, hu, j, h1, h2 => by
    have m : nod d = true ∧ nodA ds = true := by simpa [nodA] using nd
    have m' : nod e = true ∧ nodA es = true := by simpa [nodA] using ne
    have e1 : PyData.depthAll (d :: ds) = max d.depth (PyData.depthAll ds) := by simp [PyData.depthAll]
    have e2 : PyData.depthAll (e :: es) = max e.depth (PyData.depthAll es) := by simp [PyData.depthAll]
    cases hd with
    | cons a1 a2 =>
      cases he with
      | cons b1 b2 =>
        cases r with
        | cons r1 r2 =>
          cases r' with
          | cons s1 s2 =>
            cases j with
            | zero => exact eqAtR I d e A _ _ _ _ a1 b1 r1 s1 m.1 m'.1 (by omega)
            | succ j => exact eqAtRs I ds es A _ _ _ _ a2 b2 r2 s2 m.2 m'.2 (by omega) j (Nat.lt_of_succ_lt_succ h1) (Nat.lt_of_succ_lt_succ h2)
end
end
end Mw
/-! Mw3: == and != of data at the top. -/
namespace Mw
open PySem PySem.Spec PyProof.Rows L2
open PySem.SeqAt (EqAt RcAt pairEq RcNeAt)
section
variable {X : Cx} {pins : List (Addr × Obj)} {σ : L2.St} {H : Hp} {s : Shared}
theorem rcEqR (I : Inv X pins σ H s) {A : Around} {d e : D} {x y : V} {u v : Value} (hd : Rp X.K H x d) (he : Rp X.K H y e) (rx : RelV x u) (ry : RelV y v) (nd : nod d = true) (ne : nod e = true)
    (hu : A.units + min d.depth e.depth < cLine) : RcAt A s u v (PyData.eqv d e) := by
  have hu0 : A.units < cLine := by omega
  cases hd with
  | non =>
    cases rx
    cases he with
    | non =>
      cases ry
      exact RcAt.none_none
    | bl b =>
      cases ry
      exact RcAt.none_bool  b
    | int i =>
      obtain ⟨t, rfl⟩ := ry
      exact RcAt.none_int  i t
    | str i =>
      obtain ⟨t, rfl⟩ := ry
      exact RcAt.none_str  i t
    | lst k q =>
      cases ry
      obtain ⟨_, _, z, _⟩ := isL I k q
      exact RcAt.none_list  z hu0
    | tup k q =>
      cases ry
      obtain ⟨_, _, z, _⟩ := isT I k q
      exact RcAt.none_tuple  z hu0
    | dic => simp [nod] at ne
  | bl b0 =>
    cases rx
    cases he with
    | non =>
      cases ry
      exact RcAt.bool_none b0
    | bl b =>
      cases ry
      exact RcAt.bool_bool b0 b
    | int i =>
      obtain ⟨t, rfl⟩ := ry
      exact RcAt.bool_int b0 i t
    | str i =>
      obtain ⟨t, rfl⟩ := ry
      exact RcAt.bool_str b0 i t
    | lst k q =>
      cases ry
      obtain ⟨_, _, z, _⟩ := isL I k q
      exact RcAt.bool_list b0 z hu0
    | tup k q =>
      cases ry
      obtain ⟨_, _, z, _⟩ := isT I k q
      exact RcAt.bool_tuple b0 z hu0
    | dic => simp [nod] at ne
  | int i0 =>
    obtain ⟨t0, rfl⟩ := rx
    cases he with
    | non =>
      cases ry
      exact RcAt.int_none i0 t0
    | bl b =>
      cases ry
      exact RcAt.int_bool i0 t0 b
    | int i =>
      obtain ⟨t, rfl⟩ := ry
      exact RcAt.int_int i0 t0 i t
    | str i =>
      obtain ⟨t, rfl⟩ := ry
      exact RcAt.int_str i0 t0 i t
    | lst k q =>
      cases ry
      obtain ⟨_, _, z, _⟩ := isL I k q
      exact RcAt.int_list i0 t0 z hu0
    | tup k q =>
      cases ry
      obtain ⟨_, _, z, _⟩ := isT I k q
      exact RcAt.int_tuple i0 t0 z hu0
    | dic => simp [nod] at ne
  | str i0 =>
    obtain ⟨t0, rfl⟩ := rx
    cases he with
    | non =>
      cases ry
      exact RcAt.str_none i0 t0
    | bl b =>
      cases ry
      exact RcAt.str_bool i0 t0 b
    | int i =>
      obtain ⟨t, rfl⟩ := ry
      exact RcAt.str_int i0 t0 i t
    | str i =>
      obtain ⟨t, rfl⟩ := ry
      exact RcAt.str_str i0 t0 i t
    | lst k q =>
      cases ry
      obtain ⟨_, _, z, _⟩ := isL I k q
      exact RcAt.str_list i0 t0 z hu0
    | tup k q =>
      cases ry
      obtain ⟨_, _, z, _⟩ := isT I k q
      exact RcAt.str_tuple i0 t0 z hu0
    | dic => simp [nod] at ne
  | @lst a vs xs k0 q0 =>
    cases rx
    obtain ⟨its, r0, z0, l0⟩ := isL I k0 q0
    cases he with
    | non =>
      cases ry
      exact RcAt.list_none  z0 hu0
    | bl b =>
      cases ry
      exact RcAt.list_bool b z0 hu0
    | int i =>
      obtain ⟨t, rfl⟩ := ry
      exact RcAt.list_int i t z0 hu0
    | str i =>
      obtain ⟨t, rfl⟩ := ry
      exact RcAt.list_str i t z0 hu0
    | @lst b ws ys k q =>
      cases ry
      obtain ⟨jts, r, z, l⟩ := isL I k q
      have pairs : ∀ j (h1 : j < its.length) (h2 : j < jts.length), EqAt A.in1 s its[j] jts[j] (pairEq xs ys j) :=
        eqAtRs I xs ys A.in1 _ _ _ _ q0 q r0 r (by simpa [nod] using nd) (by simpa [nod] using ne) (by
          have e1 : A.in1.units = A.units + 1 := rfl
          have e2 : PyData.depth (.list xs) = PyData.depthAll xs + 1 := by simp [PyData.depth]
          have e3 : PyData.depth (.list ys) = PyData.depthAll ys + 1 := by simp [PyData.depth]
          omega)
      show RcAt A s (.ref a) (.ref b) (PyData.eqvAll xs ys)
      by_cases hsz : xs.length = ys.length
      · rw [← PySem.SeqAt.eqvAll_same_length hsz, ← l0, ← List.size_toArray]
        exact RcAt.lists z0 z (by simp; omega) hu0 fun j j1 j2 => by simpa using pairs j (by simpa using j1) (by simpa using j2)
      · rw [PySem.SeqAt.eqvAll_other_length hsz]
        exact RcAt.lists_lengths z0 z (by simp; omega) hu0
    | tup k q =>
      cases ry
      obtain ⟨_, _, z, _⟩ := isT I k q
      exact RcAt.list_tuple z0 z hu0
    | dic => simp [nod] at ne
  | @tup a vs xs k0 q0 =>
    cases rx
    obtain ⟨its, r0, z0, l0⟩ := isT I k0 q0
    cases he with
    | non =>
      cases ry
      exact RcAt.tuple_none  z0 hu0
    | bl b =>
      cases ry
      exact RcAt.tuple_bool b z0 hu0
    | int i =>
      obtain ⟨t, rfl⟩ := ry
      exact RcAt.tuple_int i t z0 hu0
    | str i =>
      obtain ⟨t, rfl⟩ := ry
      exact RcAt.tuple_str i t z0 hu0
    | lst k q =>
      cases ry
      obtain ⟨_, _, z, _⟩ := isL I k q
      exact RcAt.tuple_list z0 z hu0
    | @tup b ws ys k q =>
      cases ry
      obtain ⟨jts, r, z, l⟩ := isT I k q
      have pairs : ∀ j (h1 : j < its.length) (h2 : j < jts.length), EqAt A.in1 s its[j] jts[j] (pairEq xs ys j) :=
        eqAtRs I xs ys A.in1 _ _ _ _ q0 q r0 r (by simpa [nod] using nd) (by simpa [nod] using ne) (by
          have e1 : A.in1.units = A.units + 1 := rfl
          have e2 : PyData.depth (.tuple xs) = PyData.depthAll xs + 1 := by simp [PyData.depth]
          have e3 : PyData.depth (.tuple ys) = PyData.depthAll ys + 1 := by simp [PyData.depth]
          omega)
      show RcAt A s (.ref a) (.ref b) (PyData.eqvAll xs ys)
      rw [← PySem.SeqAt.eqvAll_eq xs ys, ← l0, ← l, ← List.size_toArray, ← List.size_toArray]
      exact RcAt.tuples z0 z hu0 fun j j1 j2 => by simpa using pairs j (by simpa using j1) (by simpa using j2)
    | dic => simp [nod] at ne
  | dic => simp [nod] at nd
theorem rcNeR (I : Inv X pins σ H s) {A : Around} {d e : D} {x y : V} {u v : Value} (hd : Rp X.K H x d) (he : Rp X.K H y e) (rx : RelV x u) (ry : RelV y v) (nd : nod d = true) (ne : nod e = true)
    (hu : A.units + min d.depth e.depth < cLine) : RcNeAt A s u v (!PyData.eqv d e) := by
  have hu0 : A.units < cLine := by omega
  cases hd with
  | non =>
    cases rx
    cases he with
    | non =>
      cases ry
      exact RcNeAt.none_none
    | bl b =>
      cases ry
      exact RcNeAt.none_bool  b
    | int i =>
      obtain ⟨t, rfl⟩ := ry
      exact RcNeAt.none_int  i t
    | str i =>
      obtain ⟨t, rfl⟩ := ry
      exact RcNeAt.none_str  i t
    | lst k q =>
      cases ry
      obtain ⟨_, _, z, _⟩ := isL I k q
      exact RcNeAt.none_list  z hu0
    | tup k q =>
      cases ry
      obtain ⟨_, _, z, _⟩ := isT I k q
      exact RcNeAt.none_tuple  z hu0
    | dic => simp [nod] at ne
  | bl b0 =>
    cases rx
    cases he with
    | non =>
      cases ry
      exact RcNeAt.bool_none b0
    | bl b =>
      cases ry
      exact RcNeAt.bool_bool b0 b
    | int i =>
      obtain ⟨t, rfl⟩ := ry
      exact RcNeAt.bool_int b0 i t
    | str i =>
      obtain ⟨t, rfl⟩ := ry
      exact RcNeAt.bool_str b0 i t
    | lst k q =>
      cases ry
      obtain ⟨_, _, z, _⟩ := isL I k q
      exact RcNeAt.bool_list b0 z hu0
    | tup k q =>
      cases ry
      obtain ⟨_, _, z, _⟩ := isT I k q
      exact RcNeAt.bool_tuple b0 z hu0
    | dic => simp [nod] at ne
  | int i0 =>
    obtain ⟨t0, rfl⟩ := rx
    cases he with
    | non =>
      cases ry
      exact RcNeAt.int_none i0 t0
    | bl b =>
      cases ry
      exact RcNeAt.int_bool i0 t0 b
    | int i =>
      obtain ⟨t, rfl⟩ := ry
      exact RcNeAt.int_int i0 t0 i t
    | str i =>
      obtain ⟨t, rfl⟩ := ry
      exact RcNeAt.int_str i0 t0 i t
    | lst k q =>
      cases ry
      obtain ⟨_, _, z, _⟩ := isL I k q
      exact RcNeAt.int_list i0 t0 z hu0
    | tup k q =>
      cases ry
      obtain ⟨_, _, z, _⟩ := isT I k q
      exact RcNeAt.int_tuple i0 t0 z hu0
    | dic => simp [nod] at ne
  | str i0 =>
    obtain ⟨t0, rfl⟩ := rx
    cases he with
    | non =>
      cases ry
      exact RcNeAt.str_none i0 t0
    | bl b =>
      cases ry
      exact RcNeAt.str_bool i0 t0 b
    | int i =>
      obtain ⟨t, rfl⟩ := ry
      exact RcNeAt.str_int i0 t0 i t
    | str i =>
      obtain ⟨t, rfl⟩ := ry
      exact RcNeAt.str_str i0 t0 i t
    | lst k q =>
      cases ry
      obtain ⟨_, _, z, _⟩ := isL I k q
      exact RcNeAt.str_list i0 t0 z hu0
    | tup k q =>
      cases ry
      obtain ⟨_, _, z, _⟩ := isT I k q
      exact RcNeAt.str_tuple i0 t0 z hu0
    | dic => simp [nod] at ne
  | @lst a vs xs k0 q0 =>
    cases rx
    obtain ⟨its, r0, z0, l0⟩ := isL I k0 q0
    cases he with
    | non =>
      cases ry
      exact RcNeAt.list_none  z0 hu0
    | bl b =>
      cases ry
      exact RcNeAt.list_bool b z0 hu0
    | int i =>
      obtain ⟨t, rfl⟩ := ry
      exact RcNeAt.list_int i t z0 hu0
    | str i =>
      obtain ⟨t, rfl⟩ := ry
      exact RcNeAt.list_str i t z0 hu0
    | @lst b ws ys k q =>
      cases ry
      obtain ⟨jts, r, z, l⟩ := isL I k q
      have pairs : ∀ j (h1 : j < its.length) (h2 : j < jts.length), EqAt A.in1 s its[j] jts[j] (pairEq xs ys j) :=
        eqAtRs I xs ys A.in1 _ _ _ _ q0 q r0 r (by simpa [nod] using nd) (by simpa [nod] using ne) (by
          have e1 : A.in1.units = A.units + 1 := rfl
          have e2 : PyData.depth (.list xs) = PyData.depthAll xs + 1 := by simp [PyData.depth]
          have e3 : PyData.depth (.list ys) = PyData.depthAll ys + 1 := by simp [PyData.depth]
          omega)
      show RcNeAt A s (.ref a) (.ref b) (!PyData.eqvAll xs ys)
      by_cases hsz : xs.length = ys.length
      · rw [← PySem.SeqAt.eqvAll_same_length hsz, ← l0, ← List.size_toArray]
        exact RcNeAt.lists z0 z (by simp; omega) hu0 fun j j1 j2 => by simpa using pairs j (by simpa using j1) (by simpa using j2)
      · rw [PySem.SeqAt.eqvAll_other_length hsz]
        exact RcNeAt.lists_lengths z0 z (by simp; omega) hu0
    | tup k q =>
      cases ry
      obtain ⟨_, _, z, _⟩ := isT I k q
      exact RcNeAt.list_tuple z0 z hu0
    | dic => simp [nod] at ne
  | @tup a vs xs k0 q0 =>
    cases rx
    obtain ⟨its, r0, z0, l0⟩ := isT I k0 q0
    cases he with
    | non =>
      cases ry
      exact RcNeAt.tuple_none  z0 hu0
    | bl b =>
      cases ry
      exact RcNeAt.tuple_bool b z0 hu0
    | int i =>
      obtain ⟨t, rfl⟩ := ry
      exact RcNeAt.tuple_int i t z0 hu0
    | str i =>
      obtain ⟨t, rfl⟩ := ry
      exact RcNeAt.tuple_str i t z0 hu0
    | lst k q =>
      cases ry
      obtain ⟨_, _, z, _⟩ := isL I k q
      exact RcNeAt.tuple_list z0 z hu0
    | @tup b ws ys k q =>
      cases ry
      obtain ⟨jts, r, z, l⟩ := isT I k q
      have pairs : ∀ j (h1 : j < its.length) (h2 : j < jts.length), EqAt A.in1 s its[j] jts[j] (pairEq xs ys j) :=
        eqAtRs I xs ys A.in1 _ _ _ _ q0 q r0 r (by simpa [nod] using nd) (by simpa [nod] using ne) (by
          have e1 : A.in1.units = A.units + 1 := rfl
          have e2 : PyData.depth (.tuple xs) = PyData.depthAll xs + 1 := by simp [PyData.depth]
          have e3 : PyData.depth (.tuple ys) = PyData.depthAll ys + 1 := by simp [PyData.depth]
          omega)
      show RcNeAt A s (.ref a) (.ref b) (!PyData.eqvAll xs ys)
      rw [← PySem.SeqAt.eqvAll_eq xs ys, ← l0, ← l, ← List.size_toArray, ← List.size_toArray]
      exact RcNeAt.tuples z0 z hu0 fun j j1 j2 => by simpa using pairs j (by simpa using j1) (by simpa using j2)
    | dic => simp [nod] at ne
  | dic => simp [nod] at nd
end
end Mw
/-! Mw4: what may be owned; how the heap may grow. -/
namespace Mw
open PySem PySem.Spec PyProof.Rows L2

inductive Rz (α : Type) where
  | ok (a : α) | rs (c : Str) | st
def Rz.bind {α β : Type} : Rz α → (α → Rz β) → Rz β
  | .ok a, f => f a
  | .rs c, _ => .rs c
  | .st, _ => .st
@[simp] theorem Rz.bind_ok {α β : Type} (a : α) (f : α → Rz β) : (Rz.ok a).bind f = f a := Eq.trans rfl rfl
@[simp] theorem Rz.bind_rs {α β : Type} (c : Str) (f : α → Rz β) : (Rz.rs c : Rz α).bind f = .rs c := Eq.trans rfl rfl
@[simp] theorem Rz.bind_st {α β : Type} (f : α → Rz β) : (Rz.st : Rz α).bind f = .st := Eq.trans rfl rfl

/-- a datum, or a list (a tuple) of one's own with what stands in it -/
inductive O where
  | fz (d : D) | ol (xs : List O) | ot (xs : List O)
mutual
def O.d : O → D
  | .fz d => d
  | .ol xs => .list (ods xs)
  | .ot xs => .tuple (ods xs)
def ods : List O → List D
  | [] => []
  | x :: r => x.d :: ods r
end
theorem ods_map : ∀ xs : List O, ods xs = xs.map O.d
  | [] => by simp [ods]
  | x :: r => by simp [ods, ods_map r]

mutual
inductive Or (K : KF) (G H : Hp) : V → O → List Addr → Prop
  | fz {v : V} {d : D} : Rp K G v d → Or K G H v (.fz d) []
  | ol {a : Addr} {vs : List V} {os : List O} {S : List Addr} : H a = some (.lst vs) → OrA K G H vs os S → Or K G H (.ref a) (.ol os) (a :: S)
  | ot {a : Addr} {vs : List V} {os : List O} {S : List Addr} : H a = some (.tup vs) → OrA K G H vs os S → Or K G H (.ref a) (.ot os) (a :: S)
inductive OrA (K : KF) (G H : Hp) : List V → List O → List Addr → Prop
  | nil : OrA K G H [] [] []
  | cons {v : V} {vs : List V} {o : O} {os : List O} {S T : List Addr} : Or K G H v o S → OrA K G H vs os T → OrA K G H (v :: vs) (o :: os) (S ++ T)
end

section
variable {K : KF} {G H G' H' : Hp}
mutual
theorem Or.up' (e : Le G G') : ∀ (o : O) (v : V) (S : List Addr), (∀ a ∈ S, ∀ x, H a = some x → H' a = some x) → Or K G H v o S → Or K G' H' v o S
  | .fz d, _, _, _, h => by
    cases h with
    | fz r => exact .fz (r.up e)
  | .ol os, _, _, k, h => by
    cases h with
    | ol h1 h2 => exact .ol (k _ List.mem_cons_self _ h1) (OrA.up' e os _ _ (fun a ha x q => k a (List.mem_cons_of_mem _ ha) x q) h2)
  | .ot os, _, _, k, h => by
    cases h with
    | ot h1 h2 => exact .ot (k _ List.mem_cons_self _ h1) (OrA.up' e os _ _ (fun a ha x q => k a (List.mem_cons_of_mem _ ha) x q) h2)
theorem OrA.up' (e : Le G G') : ∀ (o : List O) (v : List V) (S : List Addr), (∀ a ∈ S, ∀ x, H a = some x → H' a = some x) → OrA K G H v o S → OrA K G' H' v o S
  | [], _, _, _, h => by cases h; exact .nil
  | o :: os, _, _, k, h => by
    cases h with
    | cons h1 h2 =>
      exact .cons (Or.up' e o _ _ (fun a ha x q => k a (List.mem_append_left _ ha) x q) h1) (OrA.up' e os _ _ (fun a ha x q => k a (List.mem_append_right _ ha) x q) h2)
end
theorem Or.up {v : V} {o : O} {S : List Addr} (h : Or K G H v o S) (e : Le G G') (k : Le H H') : Or K G' H' v o S := Or.up' e o v S (fun a _ x q => k a x q) h
theorem OrA.up {v : List V} {o : List O} {S : List Addr} (h : OrA K G H v o S) (e : Le G G') (k : Le H H') : OrA K G' H' v o S := OrA.up' e o v S (fun a _ x q => k a x q) h

mutual
theorem Or.rp (e : Le G H) : ∀ (o : O) (v : V) (S : List Addr), Or K G H v o S → Rp K H v o.d
  | .fz d, _, _, h => by
    cases h with
    | fz r => exact r.up e
  | .ol os, _, _, h => by
    cases h with
    | ol h1 h2 => exact .lst (.of h1) (OrA.rp e os _ _ h2)
  | .ot os, _, _, h => by
    cases h with
    | ot h1 h2 => exact .tup (.of h1) (OrA.rp e os _ _ h2)
theorem OrA.rp (e : Le G H) : ∀ (o : List O) (v : List V) (S : List Addr), OrA K G H v o S → RpA K H v (ods o)
  | [], _, _, h => by cases h; exact .nil
  | o :: os, _, _, h => by
    cases h with
    | cons h1 h2 => exact .cons (Or.rp e o _ _ h1) (OrA.rp e os _ _ h2)
end
mutual
theorem Or.mem : ∀ (o : O) (v : V) (S : List Addr), Or K G H v o S → ∀ a ∈ S, ∃ x, H a = some x
  | .fz d, _, _, h => by
    cases h with
    | fz r => exact fun a ha => absurd ha (by simp)
  | .ol os, _, _, h => by
    cases h with
    | ol h1 h2 => exact fun a ha => (List.mem_cons.mp ha).elim (fun e => e ▸ ⟨_, h1⟩) fun e => OrA.mem os _ _ h2 a e
  | .ot os, _, _, h => by
    cases h with
    | ot h1 h2 => exact fun a ha => (List.mem_cons.mp ha).elim (fun e => e ▸ ⟨_, h1⟩) fun e => OrA.mem os _ _ h2 a e
theorem OrA.mem : ∀ (o : List O) (v : List V) (S : List Addr), OrA K G H v o S → ∀ a ∈ S, ∃ x, H a = some x
  | [], _, _, h => by cases h; exact fun a ha => absurd ha (by simp)
  | o :: os, _, _, h => by
    cases h with
    | cons h1 h2 => exact fun a ha => (List.mem_append.mp ha).elim (fun e => Or.mem o _ _ h1 a e) fun e => OrA.mem os _ _ h2 a e
end

/-- what stands at S is given away: it is known from here on -/
def giv (G H : Hp) (S : List Addr) : Hp := fun a => if a ∈ S then H a else G a
theorem giv_le (e : Le G H) (S : List Addr) : Le G (giv G H S) := fun a o h => by
  unfold giv
  split
  · exact e a o h
  · exact h
theorem giv_sub (e : Le G H) (S : List Addr) : Le (giv G H S) H := fun a o h => by
  unfold giv at h
  split at h
  · exact h
  · exact e a o h
mutual
theorem Or.give (e : Le G H) (T : List Addr) : ∀ (o : O) (v : V) (S : List Addr), (∀ a ∈ S, a ∈ T) → Or K G H v o S → Rp K (giv G H T) v o.d
  | .fz d, _, _, _, h => by
    cases h with
    | fz r => exact r.up (giv_le e T)
  | .ol os, _, _, k, h => by
    cases h with
    | @ol a _ _ _ h1 h2 =>
      refine .lst (.of ?_) (OrA.give e T os _ _ (fun b hb => k b (List.mem_cons_of_mem _ hb)) h2)
      unfold giv
      rw [if_pos (k a List.mem_cons_self)]
      exact h1
  | .ot os, _, _, k, h => by
    cases h with
    | @ot a _ _ _ h1 h2 =>
      refine .tup (.of ?_) (OrA.give e T os _ _ (fun b hb => k b (List.mem_cons_of_mem _ hb)) h2)
      unfold giv
      rw [if_pos (k a List.mem_cons_self)]
      exact h1
theorem OrA.give (e : Le G H) (T : List Addr) : ∀ (o : List O) (v : List V) (S : List Addr), (∀ a ∈ S, a ∈ T) → OrA K G H v o S → RpA K (giv G H T) v (ods o)
  | [], _, _, _, h => by cases h; exact .nil
  | o :: os, _, _, k, h => by
    cases h with
    | cons h1 h2 => exact .cons (Or.give e T o _ _ (fun b hb => k b (List.mem_append_left _ hb)) h1) (OrA.give e T os _ _ (fun b hb => k b (List.mem_append_right _ hb)) h2)
end

/-- from (known G, tracked H) to (known G', tracked H'): all stays; what was tracked is not made known -/
structure Xt (G H G' H' : Hp) : Prop where
  g : Le G G'
  s : Le G' H'
  h : Le H H'
  n : ∀ a, H a ≠ none → G' a = G a
theorem Xt.refl (e : Le G H) : Xt G H G H := ⟨Le.rfl', e, Le.rfl', fun _ _ => rfl⟩
theorem Xt.trans {G1 H1 G2 H2 : Hp} (a : Xt G H G1 H1) (b : Xt G1 H1 G2 H2) : Xt G H G2 H2 :=
  ⟨a.g.trans b.g, b.s, a.h.trans b.h, fun c hc => by
    have h1 : H1 c ≠ none := fun z => by
      cases q : H c with
      | none => exact hc q
      | some o => rw [a.h c o q] at z; cases z
    rw [b.n c h1, a.n c hc]⟩
theorem none_of (e : Le G H) {p : Addr} (hp : H p = none) : G p = none := by
  cases q : G p with
  | none => rfl
  | some o => rw [e p o q] at hp; cases hp
theorem le_upd {p : Addr} {o : HO} (hp : H p = none) : Le H (upd H p o) := fun a x q => by rw [upd_ne (ne_of_none q hp)]; exact q
theorem le_upd2 {p : Addr} {o : HO} (e : Le G H) : Le (upd G p o) (upd H p o) := fun a x q => by
  by_cases h : a = p
  · subst h; rw [upd_same] at q ⊢; exact q
  · rw [upd_ne h] at q ⊢; exact e a x q
/-- a new thing, known -/
theorem Xt.new {p : Addr} {o : HO} (e : Le G H) (hp : H p = none) : Xt G H (upd G p o) (upd H p o) :=
  ⟨le_upd (none_of e hp), le_upd2 e, le_upd hp, fun a ha => by
    have : a ≠ p := fun z => ha (by rw [z]; exact hp)
    rw [upd_ne this]⟩
/-- a new thing, one's own -/
theorem Xt.own {p : Addr} {o : HO} (e : Le G H) (hp : H p = none) : Xt G H G (upd H p o) :=
  ⟨Le.rfl', e.trans (le_upd hp), le_upd hp, fun _ _ => rfl⟩
/-- own things are given away -/
theorem Xt.giv {G1 H1 : Hp} {S : List Addr} (x : Xt G H G1 H1) (hS : ∀ a ∈ S, H a = none) : Xt G H (giv G1 H1 S) H1 :=
  ⟨x.g.trans (giv_le x.s S), giv_sub x.s S, x.h, fun a ha => by
    unfold Mw.giv
    rw [if_neg fun z => ha (hS a z)]
    exact x.n a ha⟩
end

/-! ### the ends of an operation -/
/-- it ends with what is told as o, new where it is one's own -/
def FP (K : KF) (G H : Hp) (Q : VK) (o : O) : Prop :=
  ∀ v G' H' S, Xt G H G' H' → Or K G' H' v o S → S.Nodup → (∀ a ∈ S, H a = none ∧ G' a = none) → Q v H'
section
variable {K : KF} {G H G' H' : Hp} {Q : VK}
theorem FP.val {d : D} (h : FP K G H Q (.fz d)) {v : V} (x : Xt G H G' H') (r : Rp K G' v d) : Q v H' := h v G' H' [] x (.fz r) .nil fun _ z => absurd z (by simp)
theorem FP.sc {d : D} (h : FP K G H Q (.fz d)) (e : Le G H) {v : V} (r : Rp K G v d) : Q v H := h.val (Xt.refl e) r
theorem FP.lst {os : List O} (h : FP K G H Q (.ol os)) (e : Le G H) {vs : List V} (r : OrA K G H vs os []) : ∀ p, H p = none → Q (.ref p) (upd H p (.lst vs)) := fun p hp => by
  refine h (.ref p) G (upd H p (.lst vs)) [p] (Xt.own e hp) (.ol upd_same (r.up Le.rfl' (le_upd hp))) (by simp) fun a ha => ?_
  have e1 : a = p := by simpa using ha
  subst e1
  exact ⟨hp, none_of e hp⟩
theorem orA_fz : ∀ {ds : List D} {vs : List V}, RpA K G vs ds → OrA K G H vs (ds.map O.fz) []
  | [], _, h => by cases h; exact .nil
  | d :: ds, _, h => by
    cases h with
    | cons h1 h2 => exact OrA.cons (.fz h1) (orA_fz h2)
theorem FP.lstD {ds : List D} (h : FP K G H Q (.ol (ds.map O.fz))) (e : Le G H) {vs : List V} (r : RpA K G vs ds) : ∀ p, H p = none → Q (.ref p) (upd H p (.lst vs)) :=
  h.lst e (orA_fz r)
theorem FP.tup {ds : List D} (h : FP K G H Q (.fz (.tuple ds))) (e : Le G H) {vs : List V} (r : RpA K G vs ds) : ∀ p, H p = none → Q (.ref p) (upd H p (.tup vs)) := fun p hp =>
  h.val (Xt.new e hp) (.tup (.of upd_same) (r.up (le_upd (none_of e hp))))
end

/-! ### lists and tuples whose items are data -/
def fzs : List O → Option (List D)
  | [] => some []
  | .fz d :: r => (fzs r).map (d :: ·)
  | _ :: _ => none
theorem fzs_map : ∀ ds : List D, fzs (ds.map O.fz) = some ds
  | [] => rfl
  | d :: ds => by
    show (fzs (ds.map O.fz)).map (d :: ·) = _
    rw [fzs_map ds]
    rfl
theorem fzs_some : ∀ {os : List O} {ds : List D}, fzs os = some ds → os = ds.map O.fz
  | [], ds, h => by cases h; rfl
  | .fz d :: r, ds, h => by
    obtain ⟨x, hx, rfl⟩ := Option.map_eq_some_iff.mp (show (fzs r).map (d :: ·) = some ds from h)
    rw [fzs_some hx]
    rfl
def O.lst? : O → Option (List D)
  | .fz (.list ds) => some ds
  | .ol os => fzs os
  | _ => none
def O.tup? : O → Option (List D)
  | .fz (.tuple ds) => some ds
  | .ot os => fzs os
  | _ => none
/-- of either -/
def O.seq? (o : O) : Option (List D) := match o.lst? with
  | some ds => some ds
  | none => o.tup?
section
variable {K : KF} {G H : Hp}
theorem orA_fz' : ∀ {ds : List D} {vs : List V} {S : List Addr}, OrA K G H vs (ds.map O.fz) S → RpA K G vs ds
  | [], _, _, h => by cases h; exact .nil
  | d :: ds, _, _, h => by
    cases h with
    | cons h1 h2 =>
      cases h1 with
      | fz r => exact .cons r (orA_fz' h2)
theorem Or.isLst {v : V} {o : O} {S : List Addr} {ds : List D} (h : Or K G H v o S) (e : Le G H) (q : o.lst? = some ds) : ∃ a vs, v = .ref a ∧ SqL K H a vs ∧ RpA K G vs ds := by
  cases h with
  | @fz _ d r =>
    cases d with
    | list xs =>
      cases q
      cases r with
      | lst h1 h2 => exact ⟨_, _, rfl, sqL_le e h1, h2⟩
    | _ => cases q
  | ol h1 h2 =>
    rw [fzs_some (show fzs _ = some ds from q)] at h2
    exact ⟨_, _, rfl, .of h1, orA_fz' h2⟩
  | ot h1 h2 => cases q
theorem Or.isTup {v : V} {o : O} {S : List Addr} {ds : List D} (h : Or K G H v o S) (e : Le G H) (q : o.tup? = some ds) : ∃ a vs, v = .ref a ∧ SqT K H a vs ∧ RpA K G vs ds := by
  cases h with
  | @fz _ d r =>
    cases d with
    | tuple xs =>
      cases q
      cases r with
      | tup h1 h2 => exact ⟨_, _, rfl, sqT_le e h1, h2⟩
    | _ => cases q
  | ol h1 h2 => cases q
  | ot h1 h2 =>
    rw [fzs_some (show fzs _ = some ds from q)] at h2
    exact ⟨_, _, rfl, .of h1, orA_fz' h2⟩
end
end Mw
/-! Mw5: the operations on data, and that the layer's rules do them. -/
namespace Mw
open PySem PySem.Spec PyProof.Rows L2

/-- two operands, borrowed; the end -/
def r2 (K : KF) (f : O → O → Rz O) : R2 := fun x y H Q => ∃ G a b S T o, Le G H ∧ Or K G H x a S ∧ Or K G H y b T ∧ f a b = .ok o ∧ FP K G H Q o
inductive OrB (K : KF) (G H : Hp) : List V → List O → Prop
  | nil : OrB K G H [] []
  | cons {v : V} {vs : List V} {o : O} {os : List O} {S : List Addr} : Or K G H v o S → OrB K G H vs os → OrB K G H (v :: vs) (o :: os)
theorem OrB.up {K : KF} {G H G' H' : Hp} : ∀ {v : List V} {o : List O}, OrB K G H v o → Le G G' → Le H H' → OrB K G' H' v o
  | _, _, .nil, _, _ => .nil
  | _, _, .cons a b, e, k => .cons (a.up e k) (OrB.up b e k)
/-- arguments, borrowed -/
def rN (K : KF) (f : List O → Rz O) : List V → Hp → VK → Prop := fun xs H Q => ∃ G os o, Le G H ∧ OrB K G H xs os ∧ f os = .ok o ∧ FP K G H Q o

def small64 (i : Int) : Bool := decide (-(2 ^ 64) < i ∧ i < 2 ^ 64)
def oAdd : O → O → Rz O
  | .fz (.int i), .fz (.int j) => .ok (.fz (.int (i + j)))
  | .fz (.str x), .fz (.str y) => if x.length + y.length ≤ sizeLine then .ok (.fz (.str (x ++ y))) else .st
  | .fz (.tuple xs), .fz (.tuple ys) => if xs.length + ys.length ≤ sizeLine then .ok (.fz (.tuple (xs ++ ys))) else .st
  | a, b => match a.lst?, b.lst? with
    | some xs, some ys => if xs.length + ys.length ≤ sizeLine then .ok (.ol ((xs ++ ys).map .fz)) else .st
    | _, _ => .st
def oSub : O → O → Rz O
  | .fz (.int i), .fz (.int j) => .ok (.fz (.int (i - j)))
  | _, _ => .st
def oMul : O → O → Rz O
  | .fz (.int i), .fz (.int j) => if (small64 i || small64 j) = true then .ok (.fz (.int (i * j))) else .st
  | _, _ => .st
def oDiv : O → O → Rz O
  | .fz (.int i), .fz (.int j) => if 0 < j ∧ j < 1073741824 then .ok (.fz (.int (i / j))) else .st
  | _, _ => .st
def oMod : O → O → Rz O
  | .fz (.int i), .fz (.int j) => if 0 < j then .ok (.fz (.int (i % j))) else .st
  | _, _ => .st

section
variable {X : Cx}
theorem Or.int {K : KF} {G H : Hp} {v : V} {i : Int} {S : List Addr} (h : Or K G H v (.fz (.int i)) S) : v = .int i := by
  cases h with
  | fz r => cases r; rfl
theorem Or.str {K : KF} {G H : Hp} {v : V} {i : Str} {S : List Addr} (h : Or K G H v (.fz (.str i)) S) : v = .str i := by
  cases h with
  | fz r => cases r; rfl
theorem Or.bool {K : KF} {G H : Hp} {v : V} {i : Bool} {S : List Addr} (h : Or K G H v (.fz (.bool i)) S) : v = .bl i := by
  cases h with
  | fz r => cases r; rfl

/-- two lists, laid one behind the other -/
theorem cat_lists {pins : List (Addr × Obj)} {s : Shared} {σ : L2.St} {H : Hp} {l b : Addr} {xs zs : List V} {Q : VK} (I : Inv X pins σ H s) (h1 : SqL X.K H l xs) (h2 : SqL X.K H b zs) (hz : xs.length + zs.length ≤ sizeLine)
    (q : ∀ p, H p = none → Q (.ref p) (upd H p (.lst (xs ++ zs)))) : wpAny (model X.prog X.w) X.A (binaryOp .Add (.ref l) (.ref b)) (EP X pins σ Q) X.xe s := by
  obtain ⟨i1, r1, p1, _⟩ := I.list h1
  obtain ⟨i2, r2, p2, _⟩ := I.list h2
  have k1 := r1.length
  have k2 := r2.length
  obtain ⟨⟨cls, dd, data, sl⟩, n, ho, hc, _, hd⟩ := p1
  obtain ⟨⟨cls2, dd2, data2, sl2⟩, n2, ho2, hc2, _, hd2⟩ := p2
  simp only at hc hd hc2 hd2
  subst hc hd hc2 hd2
  have e : i1.toArray ++ i2.toArray = (i1 ++ i2).toArray := by simp
  refine concat_meets ⟨_, ho, rfl⟩ ⟨_, ho2, rfl⟩ noFill_list_add seq_list_add PySem.F.slot_list_add PySem.F.entry_list_add (PySem.F.args_list_add_2 _ _) (list_addW l b i1.toArray i2.toArray n n2 dd dd2 sl sl2 (by simp; omega)) ⟨ho, ho2, ?_⟩
  rw [e]
  exact ⟨.ref _, _, I.lnew (t' := s.toks) (r1.append r2) (by simp only [List.length_append]; omega), rfl, q _ I.fresh⟩

theorem oAdd_inv {a b o : O} (h : oAdd a b = .ok o) :
    (∃ i j, a = .fz (.int i) ∧ b = .fz (.int j) ∧ o = .fz (.int (i + j))) ∨ (∃ i j, a = .fz (.str i) ∧ b = .fz (.str j) ∧ i.length + j.length ≤ sizeLine ∧ o = .fz (.str (i ++ j))) ∨
    (∃ xs ys, a.lst? = some xs ∧ b.lst? = some ys ∧ xs.length + ys.length ≤ sizeLine ∧ o = .ol ((xs ++ ys).map .fz)) ∨
    (∃ xs ys, a = .fz (.tuple xs) ∧ b = .fz (.tuple ys) ∧ xs.length + ys.length ≤ sizeLine ∧ o = .fz (.tuple (xs ++ ys))) := by
  unfold oAdd at h
  split at h
  · cases h; exact .inl ⟨_, _, rfl, rfl, rfl⟩
  · split at h
    · cases h; exact .inr (.inl ⟨_, _, rfl, rfl, by assumption, rfl⟩)
    · cases h
  · split at h
    · cases h; exact .inr (.inr (.inr ⟨_, _, rfl, rfl, by assumption, rfl⟩))
    · cases h
  · split at h
    · split at h
      · cases h; exact .inr (.inr (.inl ⟨_, _, by assumption, by assumption, by assumption, rfl⟩))
      · cases h
    · cases h
theorem rl_add : OpR X (binaryOp .Add) (r2 X.K oAdd) := by
  intro pins s σ H x y v u Q I rx ry h
  obtain ⟨G, a, b, S, T, o, e, ha, hb, hf, q⟩ := h
  rcases oAdd_inv hf with ⟨i, j, rfl, rfl, rfl⟩ | ⟨i, j, rfl, rfl, hz, rfl⟩ | ⟨xs, ys, h1, h2, hz, rfl⟩ | ⟨xs, ys, rfl, rfl, hz, rfl⟩
  · exact op_add pins s σ H x y v u Q I rx ry ⟨i, j, ha.int, hb.int, q.sc e (.int _)⟩
  · exact op_add_str pins s σ H x y v u Q I rx ry ⟨i, j, ha.str, hb.str, hz, q.sc e (.str _)⟩
  · obtain ⟨l, vs, rfl, k1, p1⟩ := ha.isLst e h1
    obtain ⟨m, ws, rfl, k2, p2⟩ := hb.isLst e h2
    cases rx
    cases ry
    exact cat_lists I k1 k2 (by rw [p1.length, p2.length]; exact hz) (q.lstD e (p1.append p2))
  · cases ha with
    | fz ra =>
      cases hb with
      | fz rb =>
        have ra0 := ra
        have rb0 := rb
        cases ra with
        | tup k1 p1 =>
          cases rb with
          | tup k2 p2 =>
            refine op_catA pins s σ H _ _ v u Q I rx ry ⟨_, _, _, _, rfl, rfl, sqT_le e k1, sqT_le e k2, by rw [p1.length, p2.length]; exact hz, fun z => ?_, fun _ z => ?_, fun _ _ => q.tup e (p1.append p2)⟩
            · subst z
              cases p1
              exact q.sc e rb0
            · subst z
              cases p2
              rw [List.append_nil] at q
              exact q.sc e ra0

theorem rl_sub : OpR X (binaryOp .Sub) (r2 X.K oSub) := by
  intro pins s σ H x y v u Q I rx ry h
  obtain ⟨G, a, b, S, T, o, e, ha, hb, hf, q⟩ := h
  unfold oSub at hf
  split at hf
  · cases hf
    exact op_sub pins s σ H x y v u Q I rx ry ⟨_, _, ha.int, hb.int, q.sc e (.int _)⟩
  · cases hf
theorem rl_mul : OpR X (binaryOp .Mult) (r2 X.K oMul) := by
  intro pins s σ H x y v u Q I rx ry h
  obtain ⟨G, a, b, S, T, o, e, ha, hb, hf, q⟩ := h
  unfold oMul at hf
  split at hf
  · split at hf
    · rename_i i j hc
      cases hf
      refine op_mul pins s σ H x y v u Q I rx ry ⟨_, _, ha.int, hb.int, ?_, q.sc e (.int _)⟩
      rcases (Bool.or_eq_true _ _).mp hc with z | z
      · exact .inl (of_decide_eq_true z)
      · exact .inr (of_decide_eq_true z)
    · cases hf
  · cases hf
theorem rl_div : OpR X (binaryOp .FloorDiv) (r2 X.K oDiv) := by
  intro pins s σ H x y v u Q I rx ry h
  obtain ⟨G, a, b, S, T, o, e, ha, hb, hf, q⟩ := h
  unfold oDiv at hf
  split at hf
  · split at hf
    · cases hf
      exact op_fdiv pins s σ H x y v u Q I rx ry ⟨_, _, ha.int, hb.int, by assumption, q.sc e (.int _)⟩
    · cases hf
  · cases hf
theorem rl_mod : OpR X (binaryOp .Mod) (r2 X.K oMod) := by
  intro pins s σ H x y v u Q I rx ry h
  obtain ⟨G, a, b, S, T, o, e, ha, hb, hf, q⟩ := h
  unfold oMod at hf
  split at hf
  · split at hf
    · cases hf
      exact op_mod pins s σ H x y v u Q I rx ry ⟨_, _, ha.int, hb.int, by assumption, q.sc e (.int _)⟩
    · cases hf
  · cases hf

/-! ### comparisons -/
def oB (b : Bool) : Rz O := .ok (.fz (.bool b))
def oLt : O → O → Rz O
  | .fz (.int i), .fz (.int j) => oB (decide (i < j))
  | .fz (.str i), .fz (.str j) => oB (decide (i.cps.toList < j.cps.toList))
  | _, _ => .st
def oLe : O → O → Rz O
  | .fz (.int i), .fz (.int j) => oB (decide (i ≤ j))
  | .fz (.str i), .fz (.str j) => oB (!decide (j.cps.toList < i.cps.toList))
  | _, _ => .st
def oGt : O → O → Rz O
  | .fz (.int i), .fz (.int j) => oB (decide (j < i))
  | .fz (.str i), .fz (.str j) => oB (decide (j.cps.toList < i.cps.toList))
  | _, _ => .st
def oGe : O → O → Rz O
  | .fz (.int i), .fz (.int j) => oB (decide (j ≤ i))
  | .fz (.str i), .fz (.str j) => oB (!decide (i.cps.toList < j.cps.toList))
  | _, _ => .st
/-- k: the room that is left -/
def eqOk (k : Nat) (a b : D) : Bool := nod a && nod b && decide (min a.depth b.depth ≤ 200 + 16 * k)
def oEq (k : Nat) (a b : O) : Rz O := if eqOk k a.d b.d = true then oB (PyData.eqv a.d b.d) else .st
def oNe (k : Nat) (a b : O) : Rz O := if eqOk k a.d b.d = true then oB (!PyData.eqv a.d b.d) else .st

theorem rl_lt : OpR X (compareOp .Lt) (r2 X.K oLt) := by
  intro pins s σ H x y v u Q I rx ry h
  obtain ⟨G, a, b, S, T, o, e, ha, hb, hf, q⟩ := h
  unfold oLt at hf
  split at hf
  · cases hf; exact op_lt pins s σ H x y v u Q I rx ry ⟨_, _, ha.int, hb.int, q.sc e (.bl _)⟩
  · cases hf; exact op_lt_str pins s σ H x y v u Q I rx ry ⟨_, _, ha.str, hb.str, q.sc e (.bl _)⟩
  · cases hf
theorem rl_le : OpR X (compareOp .LtE) (r2 X.K oLe) := by
  intro pins s σ H x y v u Q I rx ry h
  obtain ⟨G, a, b, S, T, o, e, ha, hb, hf, q⟩ := h
  unfold oLe at hf
  split at hf
  · cases hf; exact op_le pins s σ H x y v u Q I rx ry ⟨_, _, ha.int, hb.int, q.sc e (.bl _)⟩
  · cases hf; exact op_le_str pins s σ H x y v u Q I rx ry ⟨_, _, ha.str, hb.str, q.sc e (.bl _)⟩
  · cases hf
theorem rl_gt : OpR X (compareOp .Gt) (r2 X.K oGt) := by
  intro pins s σ H x y v u Q I rx ry h
  obtain ⟨G, a, b, S, T, o, e, ha, hb, hf, q⟩ := h
  unfold oGt at hf
  split at hf
  · cases hf; exact op_gt pins s σ H x y v u Q I rx ry ⟨_, _, ha.int, hb.int, q.sc e (.bl _)⟩
  · cases hf; exact op_gt_str pins s σ H x y v u Q I rx ry ⟨_, _, ha.str, hb.str, q.sc e (.bl _)⟩
  · cases hf
theorem rl_ge : OpR X (compareOp .GtE) (r2 X.K oGe) := by
  intro pins s σ H x y v u Q I rx ry h
  obtain ⟨G, a, b, S, T, o, e, ha, hb, hf, q⟩ := h
  unfold oGe at hf
  split at hf
  · cases hf; exact op_ge pins s σ H x y v u Q I rx ry ⟨_, _, ha.int, hb.int, q.sc e (.bl _)⟩
  · cases hf; exact op_ge_str pins s σ H x y v u Q I rx ry ⟨_, _, ha.str, hb.str, q.sc e (.bl _)⟩
  · cases hf
theorem eqOk_iff {k : Nat} {a b : D} : eqOk k a b = true ↔ nod a = true ∧ nod b = true ∧ min a.depth b.depth ≤ 200 + 16 * k := by
  simp only [eqOk, Bool.and_eq_true, decide_eq_true_eq, and_assoc]
theorem rl_eq {k : Nat} (hr : Room k X.A) : OpR X (compareOp .Eq) (r2 X.K (oEq k)) := by
  intro pins s σ H x y v u Q I rx ry h
  obtain ⟨G, a, b, S, T, o, e, ha, hb, hf, q⟩ := h
  unfold oEq at hf
  split at hf
  · rename_i hc
    obtain ⟨n1, n2, hd⟩ := eqOk_iff.mp hc
    cases hf
    have hu := hr.un
    exact rcEqR I (Or.rp e _ _ _ ha) (Or.rp e _ _ _ hb) rx ry n1 n2 (by omega) X.prog X.w X.xe _ ⟨.bl _, H, I, rfl, q.sc e (.bl _)⟩
  · cases hf
theorem rl_ne {k : Nat} (hr : Room k X.A) : OpR X (compareOp .NotEq) (r2 X.K (oNe k)) := by
  intro pins s σ H x y v u Q I rx ry h
  obtain ⟨G, a, b, S, T, o, e, ha, hb, hf, q⟩ := h
  unfold oNe at hf
  split at hf
  · rename_i hc
    obtain ⟨n1, n2, hd⟩ := eqOk_iff.mp hc
    cases hf
    have hu := hr.un
    exact rcNeR I (Or.rp e _ _ _ ha) (Or.rp e _ _ _ hb) rx ry n1 n2 (by omega) X.prog X.w X.xe _ ⟨.bl _, H, I, rfl, q.sc e (.bl _)⟩
  · cases hf

/-! ### in -/
open Classical in
/-- whether a value stands for a datum that is equal to e -/
noncomputable def eqT (K : KF) (H : Hp) (e : D) (w : Value) : Bool := decide (∃ (d : D) (v : V), Rp K H v d ∧ RelV v w ∧ nod d = true ∧ PyData.eqv d e = true)
open Classical in
theorem eqT_of {pins : List (Addr × Obj)} {s : Shared} {σ : L2.St} {H : Hp} (I : Inv X pins σ H s) {e d : D} {v : V} {w : Value} (r : Rp X.K H v d) (rw' : RelV v w) (n : nod d = true) : eqT X.K H e w = PyData.eqv d e := by
  unfold eqT
  cases q : PyData.eqv d e with
  | true => exact decide_eq_true ⟨d, v, r, rw', n, q⟩
  | false =>
    refine decide_eq_false fun ⟨d', v', r', rw2, n', q'⟩ => ?_
    have ev := rw2.inj rw'
    subst ev
    rw [Rp.unique I _ _ _ n' n r' r, q] at q'
    cases q'
theorem any_eqT {pins : List (Addr × Obj)} {s : Shared} {σ : L2.St} {H : Hp} (I : Inv X pins σ H s) {e : D} : ∀ {ds : List D} {vs : List V} {ws : List Value}, RpA X.K H vs ds → Vals vs ws → nodA ds = true → ws.any (eqT X.K H e) = ds.any fun d => PyData.eqv d e
  | [], _, _, h, r, _ => by cases h; cases r; rfl
  | d :: ds, _, _, h, r, n => by
    have m : nod d = true ∧ nodA ds = true := by simpa [nodA] using n
    cases h with
    | cons h1 h2 =>
      cases r with
      | cons r1 r2 => rw [List.any_cons, List.any_cons, eqT_of I h1 r1 m.1, any_eqT I h2 r2 m.2]
theorem each_eqT {pins : List (Addr × Obj)} {s : Shared} {σ : L2.St} {H : Hp} (I : Inv X pins σ H s) {A : Around} {e : D} {y : V} {u : Value} (he : Rp X.K H y e) (ry : RelV y u) (ne : nod e = true) :
    ∀ {ds : List D} {vs : List V} {ws : List Value}, RpA X.K H vs ds → Vals vs ws → nodA ds = true → A.units + min (PyData.depthAll ds) e.depth < cLine → ∀ w ∈ ws, SeqAt.EqAt A s w u (eqT X.K H e w)
  | [], _, _, h, r, _, _ => by cases h; cases r; exact fun w hw => absurd hw (by simp)
  | d :: ds, _, _, h, r, n, hu => by
    have m : nod d = true ∧ nodA ds = true := by simpa [nodA] using n
    have e1 : PyData.depthAll (d :: ds) = max d.depth (PyData.depthAll ds) := by simp [PyData.depthAll]
    cases h with
    | cons h1 h2 =>
      cases r with
      | cons r1 r2 =>
        intro w hw
        rcases List.mem_cons.mp hw with rfl | hw
        · rw [eqT_of I h1 r1 m.1]
          exact eqAtR I d e A _ _ _ _ h1 he r1 ry m.1 ne (by omega)
        · exact each_eqT I he ry ne h2 r2 m.2 (by omega) w hw
def inOk (k : Nat) (a : D) (ds : List D) : Bool := nod a && nodA ds && decide (min (PyData.depthAll ds) a.depth ≤ 198 + 16 * k)
def oIn (k : Nat) : O → O → Rz O
  | .fz (.str i), .fz (.str j) => oB (!(Builtin.Str.occurrences j i 0 j.length 1).isEmpty)
  | a, b => match b.seq? with
    | some ds => if inOk k a.d ds = true then oB (ds.any fun d => PyData.eqv d a.d) else .st
    | none => .st
def oNi (k : Nat) (a b : O) : Rz O := (oIn k a b).bind fun o => match o with
  | .fz (.bool c) => oB (!c)
  | _ => .st
theorem Or.isSeq {K : KF} {G H : Hp} {v : V} {o : O} {S : List Addr} {ds : List D} (h : Or K G H v o S) (e : Le G H) (q : o.seq? = some ds) : ∃ a vs, v = .ref a ∧ (SqL K H a vs ∨ SqT K H a vs) ∧ RpA K G vs ds := by
  unfold O.seq? at q
  split at q
  · obtain ⟨a, vs, h1, h2, h3⟩ := h.isLst e (by rw [← q]; assumption)
    exact ⟨a, vs, h1, .inl h2, h3⟩
  · obtain ⟨a, vs, h1, h2, h3⟩ := h.isTup e q
    exact ⟨a, vs, h1, .inr h2, h3⟩
theorem oIn_inv {k : Nat} {a b o : O} (h : oIn k a b = .ok o) : (∃ i j, a = .fz (.str i) ∧ b = .fz (.str j) ∧ o = .fz (.bool (!(Builtin.Str.occurrences j i 0 j.length 1).isEmpty))) ∨
    (∃ ds, b.seq? = some ds ∧ nod a.d = true ∧ nodA ds = true ∧ min (PyData.depthAll ds) a.d.depth ≤ 198 + 16 * k ∧ o = .fz (.bool (ds.any fun d => PyData.eqv d a.d))) := by
  unfold oIn at h
  split at h
  · cases h; exact .inl ⟨_, _, rfl, rfl, rfl⟩
  · split at h
    · split at h
      · rename_i hc
        simp only [inOk, Bool.and_eq_true, decide_eq_true_eq] at hc
        cases h
        exact .inr ⟨_, by assumption, hc.1.1, hc.1.2, hc.2, rfl⟩
      · cases h
    · cases h
theorem rl_in {k : Nat} (hr : Room k X.A) : OpR X (compareOp .In) (r2 X.K (oIn k)) := by
  intro pins s σ H x y v u Q I rx ry h
  obtain ⟨G, a, b, S, T, o, e, ha, hb, hf, q⟩ := h
  have hu := hr.un
  rcases oIn_inv hf with ⟨i, j, rfl, rfl, rfl⟩ | ⟨ds, h1, n1, n2, hd, rfl⟩
  · exact op_in_str pins s σ H x y v u Q I rx ry ⟨i, j, ha.str, hb.str, q.sc e (.bl _)⟩
  · obtain ⟨p, vs, rfl, k2, p2⟩ := hb.isSeq e h1
    cases ry
    have p2' := p2.up e
    have a' := Or.rp e _ _ _ ha
    have e1 : X.A.in1.units = X.A.units + 1 := rfl
    rcases k2 with k2 | k2
    · obtain ⟨its, r, pl, hz⟩ := I.list k2
      refine SeqAt.in_listAt (eqT X.K H a.d) pl.isList (fun w hw => each_eqT I a' rx n1 p2' r n2 (by omega) w (by simpa using hw)) ⟨.bl _, H, I, rfl, ?_⟩
      rw [show its.toArray.any (eqT X.K H a.d) = its.any (eqT X.K H a.d) by simp, any_eqT I p2' r n2]
      exact q.sc e (.bl _)
    · obtain ⟨its, r, pl, hz⟩ := I.tuple k2
      refine SeqAt.in_tupleAt (eqT X.K H a.d) pl (fun w hw => each_eqT I a' rx n1 p2' r n2 (by omega) w (by simpa using hw)) ⟨.bl _, H, I, rfl, ?_⟩
      rw [show its.toArray.any (eqT X.K H a.d) = its.any (eqT X.K H a.d) by simp, any_eqT I p2' r n2]
      exact q.sc e (.bl _)
theorem rl_ni {k : Nat} (hr : Room k X.A) : OpR X (compareOp .NotIn) (r2 X.K (oNi k)) := by
  intro pins s σ H x y v u Q I rx ry h
  obtain ⟨G, a, b, S, T, o, e, ha, hb, hf, q⟩ := h
  have hu := hr.un
  unfold oNi at hf
  cases hg : oIn k a b with
  | ok o1 =>
    rw [hg] at hf
    rcases oIn_inv hg with ⟨i, j, rfl, rfl, rfl⟩ | ⟨ds, h1, n1, n2, hd, rfl⟩
    · cases hf
      exact op_notIn_str pins s σ H x y v u Q I rx ry ⟨i, j, ha.str, hb.str, q.sc e (.bl _)⟩
    · cases hf
      obtain ⟨p, vs, rfl, k2, p2⟩ := hb.isSeq e h1
      cases ry
      have p2' := p2.up e
      have a' := Or.rp e _ _ _ ha
      have e1 : X.A.in1.units = X.A.units + 1 := rfl
      rcases k2 with k2 | k2
      · obtain ⟨its, r, pl, hz⟩ := I.list k2
        refine SeqAt.notIn_listAt (eqT X.K H a.d) pl.isList (fun w hw => each_eqT I a' rx n1 p2' r n2 (by omega) w (by simpa using hw)) ⟨.bl _, H, I, rfl, ?_⟩
        rw [show its.toArray.any (eqT X.K H a.d) = its.any (eqT X.K H a.d) by simp, any_eqT I p2' r n2]
        exact q.sc e (.bl _)
      · obtain ⟨its, r, pl, hz⟩ := I.tuple k2
        refine SeqAt.notIn_tupleAt (eqT X.K H a.d) pl (fun w hw => each_eqT I a' rx n1 p2' r n2 (by omega) w (by simpa using hw)) ⟨.bl _, H, I, rfl, ?_⟩
        rw [show its.toArray.any (eqT X.K H a.d) = its.any (eqT X.K H a.d) by simp, any_eqT I p2' r n2]
        exact q.sc e (.bl _)
  | rs c => rw [hg] at hf; cases hf
  | st => rw [hg] at hf; cases hf
end
end Mw
/-! Mw6: the slots as data; what an expression's reading is worth. -/
namespace Mw
open PySem PySem.Spec PyProof.Rows L2

abbrev Ro := List (Option O)

inductive Sl (K : KF) (G H : Hp) : Ro → L2.St → List Addr → Prop
  | nil : Sl K G H [] [] []
  | no {ρ : Ro} {σ : L2.St} {S : List Addr} {x : Option V} : Sl K G H ρ σ S → Sl K G H (none :: ρ) (x :: σ) S
  | so {ρ : Ro} {σ : L2.St} {S T : List Addr} {v : V} {o : O} : Or K G H v o T → Sl K G H ρ σ S → Sl K G H (some o :: ρ) (some v :: σ) (T ++ S)
structure Sm (K : KF) (G H : Hp) (ρ : Ro) (σ : L2.St) (S : List Addr) : Prop where
  sl : Sl K G H ρ σ S
  nd : S.Nodup
  out : ∀ a ∈ S, G a = none
  le : Le G H

section
variable {K : KF} {G H G' H' : Hp}
theorem Sl.up : ∀ {ρ : Ro} {σ : L2.St} {S : List Addr}, Sl K G H ρ σ S → Le G G' → (∀ a ∈ S, ∀ x, H a = some x → H' a = some x) → Sl K G' H' ρ σ S
  | _, _, _, .nil, _, _ => .nil
  | _, _, _, .no h, e, k => .no (Sl.up h e k)
  | _, _, _, .so h1 h2, e, k => .so (Or.up' e _ _ _ (fun a ha x q => k a (List.mem_append_left _ ha) x q) h1) (Sl.up h2 e fun a ha x q => k a (List.mem_append_right _ ha) x q)
theorem Sl.mem : ∀ {ρ : Ro} {σ : L2.St} {S : List Addr}, Sl K G H ρ σ S → ∀ a ∈ S, ∃ x, H a = some x
  | _, _, _, .nil => fun a ha => absurd ha (by simp)
  | _, _, _, .no h => Sl.mem h
  | _, _, _, .so h1 h2 => fun a ha => (List.mem_append.mp ha).elim (fun z => Or.mem _ _ _ h1 a z) fun z => Sl.mem h2 a z
theorem Sl.get : ∀ {ρ : Ro} {σ : L2.St} {S : List Addr} {i : Nat} {o : O}, Sl K G H ρ σ S → ρ[i]? = some (some o) → ∃ v T, σ[i]? = some (some v) ∧ Or K G H v o T ∧ ∀ a ∈ T, a ∈ S
  | _, _, _, _, _, .nil, e => by simp at e
  | _, _, _, 0, _, .no h, e => by simp at e
  | _, _, _, 0, _, .so h1 h2, e => by
    simp at e
    subst e
    exact ⟨_, _, rfl, h1, fun a ha => List.mem_append_left _ ha⟩
  | _, _, _, i + 1, o, .no h, e => by
    obtain ⟨v, T, h1, h2, h3⟩ := Sl.get (i := i) (o := o) h (by simpa using e)
    exact ⟨v, T, by simpa using h1, h2, h3⟩
  | _, _, _, i + 1, o, .so h1 h2, e => by
    obtain ⟨v, T, k1, k2, k3⟩ := Sl.get (i := i) (o := o) h2 (by simpa using e)
    exact ⟨v, T, by simpa using k1, k2, fun a ha => List.mem_append_right _ (k3 a ha)⟩
theorem Sl.get' : ∀ {ρ : Ro} {σ : L2.St} {S : List Addr} {i : Nat} {o : O}, Sl K G H ρ σ S → ρ[i]? = some (some o) → ∃ v T, σ[i]? = some (some v) ∧ Or K G H v o T ∧ (∀ a ∈ T, a ∈ S) ∧ T.Sublist S
  | _, _, _, _, _, .nil, e => by simp at e
  | _, _, _, 0, _, .no h, e => by simp at e
  | _, _, _, 0, _, .so h1 h2, e => by
    simp at e
    subst e
    exact ⟨_, _, rfl, h1, fun a ha => List.mem_append_left _ ha, List.sublist_append_left _ _⟩
  | _, _, _, i + 1, o, .no h, e => by
    obtain ⟨v, T, h1, h2, h3, h4⟩ := Sl.get' (i := i) (o := o) h (by simpa using e)
    exact ⟨v, T, by simpa using h1, h2, h3, h4⟩
  | _, _, _, i + 1, o, .so h1 h2, e => by
    obtain ⟨v, T, k1, k2, k3, k4⟩ := Sl.get' (i := i) (o := o) h2 (by simpa using e)
    exact ⟨v, T, by simpa using k1, k2, fun a ha => List.mem_append_right _ (k3 a ha), k4.trans (List.sublist_append_right _ _)⟩
/-- a slot is set; R: what stays -/
theorem Sl.put : ∀ {ρ : Ro} {σ : L2.St} {S : List Addr} (i : Nat) {o : O} {v : V} {T : List Addr}, Sl K G H ρ σ S → Or K G H v o T → i < ρ.length → ∃ S' R, Sl K G H (ρ.set i (some o)) (σ.set i (some v)) S' ∧ S'.Perm (T ++ R) ∧ R.Sublist S
  | _, _, _, i, _, _, _, .nil, _, l => absurd l (by simp)
  | _, _, _, 0, _, _, T, .no h, r, _ => ⟨_, _, .so r h, .refl _, .refl _⟩
  | _, _, _, 0, _, _, T, .so h1 h2, r, _ => ⟨_, _, .so r h2, .refl _, List.sublist_append_right _ _⟩
  | _, _, _, i + 1, _, _, T, .no h, r, l => by
    obtain ⟨S', R, h1, h2, h3⟩ := Sl.put i h r (by simpa using l)
    exact ⟨S', R, .no h1, h2, h3⟩
  | _, _, _, i + 1, _, _, T, @Sl.so _ _ _ _ _ S0 T0 _ _ k1 k2, r, l => by
    obtain ⟨S', R, h1, h2, h3⟩ := Sl.put i k2 r (by simpa using l)
    refine ⟨T0 ++ S', T0 ++ R, .so k1 h1, ?_, List.Sublist.append (.refl _) h3⟩
    refine (List.Perm.append_left T0 h2).trans ?_
    rw [← List.append_assoc, ← List.append_assoc]
    exact List.Perm.append_right R List.perm_append_comm
/-- a slot in focus: its thing, the others (R), and what comes of another thing there -/
theorem Sl.foc : ∀ {ρ : Ro} {σ : L2.St} {S : List Addr} {i : Nat} {o : O}, Sl K G H ρ σ S → ρ[i]? = some (some o) → ∃ v T R, σ[i]? = some (some v) ∧ Or K G H v o T ∧ S.Perm (T ++ R) ∧
    ∀ (G' H' : Hp) (o' : O) (v' : V) (T' : List Addr), Le G G' → (∀ a ∈ R, ∀ x, H a = some x → H' a = some x) → Or K G' H' v' o' T' → ∃ S', Sl K G' H' (ρ.set i (some o')) (σ.set i (some v')) S' ∧ S'.Perm (T' ++ R)
  | _, _, _, _, _, .nil, e => by simp at e
  | _, _, _, 0, _, .no h, e => by simp at e
  | _, _, _, 0, _, @Sl.so _ _ _ _ _ S T _ _ h1 h2, e => by
    simp at e
    subst e
    exact ⟨_, T, S, rfl, h1, .refl _, fun G' H' o' v' T' l k r => ⟨T' ++ S, .so r (h2.up l k), .refl _⟩⟩
  | _, _, _, i + 1, o, .no h, e => by
    obtain ⟨v, T, R, h1, h2, h3, h4⟩ := Sl.foc (i := i) (o := o) h (by simpa using e)
    refine ⟨v, T, R, by simpa using h1, h2, h3, fun G' H' o' v' T' l k r => ?_⟩
    obtain ⟨S', k1, k2⟩ := h4 G' H' o' v' T' l k r
    exact ⟨S', .no k1, k2⟩
  | _, _, _, i + 1, o, @Sl.so _ _ _ _ _ S0 T0 _ _ g1 g2, e => by
    obtain ⟨v, T, R, h1, h2, h3, h4⟩ := Sl.foc (i := i) (o := o) g2 (by simpa using e)
    have sw : ∀ (A B C : List Addr), (A ++ (B ++ C)).Perm (B ++ (A ++ C)) := fun A B C => by
      rw [← List.append_assoc, ← List.append_assoc]
      exact List.Perm.append_right C List.perm_append_comm
    refine ⟨v, T, T0 ++ R, by simpa using h1, h2, (List.Perm.append_left T0 h3).trans (sw _ _ _), fun G' H' o' v' T' l k r => ?_⟩
    obtain ⟨S', k1, k2⟩ := h4 G' H' o' v' T' l (fun a ha => k a (List.mem_append_right _ ha)) r
    exact ⟨T0 ++ S', .so (Or.up' l _ _ _ (fun a ha => k a (List.mem_append_left _ ha)) g1) k1, (List.Perm.append_left T0 k2).trans (sw _ _ _)⟩
theorem Sl.drop : ∀ {ρ : Ro} {σ : L2.St} {S : List Addr} (i : Nat), Sl K G H ρ σ S → ∃ S', Sl K G H (ρ.set i none) σ S' ∧ S'.Sublist S
  | _, _, _, i, .nil => ⟨[], by simpa using Sl.nil, .refl _⟩
  | _, _, _, 0, .no h => ⟨_, .no h, .refl _⟩
  | _, _, _, 0, .so h1 h2 => ⟨_, .no h2, List.sublist_append_right _ _⟩
  | _, _, _, i + 1, .no h => by
    obtain ⟨S', h1, h2⟩ := Sl.drop i h
    exact ⟨S', .no h1, h2⟩
  | _, _, _, i + 1, .so k1 k2 => by
    obtain ⟨S', h1, h2⟩ := Sl.drop i k2
    exact ⟨_, .so k1 h1, List.Sublist.append (.refl _) h2⟩
theorem Sl.length : ∀ {ρ : Ro} {σ : L2.St} {S : List Addr}, Sl K G H ρ σ S → ρ.length = σ.length
  | _, _, _, .nil => rfl
  | _, _, _, .no h => by rw [List.length_cons, List.length_cons, Sl.length h]
  | _, _, _, .so _ h => by rw [List.length_cons, List.length_cons, Sl.length h]
theorem Sm.up {ρ : Ro} {σ : L2.St} {S : List Addr} (m : Sm K G H ρ σ S) (x : Xt G H G' H') : Sm K G' H' ρ σ S :=
  ⟨m.sl.up x.g fun a _ o q => x.h a o q, m.nd, fun a ha => by
    obtain ⟨o, q⟩ := m.sl.mem a ha
    rw [x.n a (by rw [q]; exact fun z => nomatch z)]
    exact m.out a ha, x.s⟩
theorem back_none {a : Addr} (e : Le H H') (h : H' a = none) : H a = none := none_of e h
end

/-! ### readings -/
abbrev Mg := Str → Option Value
/-- an exception of the class c is wished for -/
def rsW (mg : Mg) (W : WX) (σ : L2.St) (G H : Hp) (c : Str) : Prop := ∀ cv, mg c = some cv → ∀ G' H', Xt G H G' H' → W cv none σ H'
theorem rsW.up {mg : Mg} {W : WX} {σ : L2.St} {G H G' H' : Hp} {c : Str} (h : rsW mg W σ G H c) (x : Xt G H G' H') : rsW mg W σ G' H' c := fun cv e G2 H2 y => h cv e G2 H2 (x.trans y)
/-- the end of an expression. p: the value may be a part of what stands in a slot (a path); else it is new, where it is one's own -/
def eO (K : KF) (mg : Mg) (W : WX) (p : Bool) (σ : L2.St) (G H : Hp) (Q : VK) : Rz O → Prop
  | .ok o => ∀ v G' H' T, Xt G H G' H' → Or K G' H' v o T → (p = false → T.Nodup ∧ ∀ a ∈ T, H a = none ∧ G' a = none) → Q v H'
  | .rs c => rsW mg W σ G H c
  | .st => False
def eD (K : KF) (mg : Mg) (W : WX) (σ : L2.St) (G H : Hp) (Q : VK) : Rz D → Prop
  | .ok d => ∀ v G' H', Xt G H G' H' → Rp K G' v d → Q v H'
  | .rs c => rsW mg W σ G H c
  | .st => False
def eDs (K : KF) (mg : Mg) (W : WX) (σ : L2.St) (G H : Hp) (Q : List V → Hp → Prop) : Rz (List D) → Prop
  | .ok ds => ∀ vs G' H', Xt G H G' H' → RpA K G' vs ds → Q vs H'
  | .rs c => rsW mg W σ G H c
  | .st => False
def eOs (K : KF) (mg : Mg) (W : WX) (σ : L2.St) (G H : Hp) (Q : List V → Hp → Prop) : Rz (List O) → Prop
  | .ok os => ∀ vs G' H', Xt G H G' H' → OrB K G' H' vs os → Q vs H'
  | .rs c => rsW mg W σ G H c
  | .st => False
/-- new things, one behind another -/
def eNs (K : KF) (mg : Mg) (W : WX) (σ : L2.St) (G H : Hp) (Q : List V → Hp → Prop) : Rz (List O) → Prop
  | .ok os => ∀ vs G' H' T, Xt G H G' H' → OrA K G' H' vs os T → T.Nodup → (∀ a ∈ T, H a = none ∧ G' a = none) → Q vs H'
  | .rs c => rsW mg W σ G H c
  | .st => False
def eT (mg : Mg) (W : WX) (σ : L2.St) (G H : Hp) (Q : Bool → Hp → Prop) : Rz Bool → Prop
  | .ok b => ∀ G' H', Xt G H G' H' → Q b H'
  | .rs c => rsW mg W σ G H c
  | .st => False
def tO (K : KF) (mg : Mg) (W : WX) (p : Bool) (f : Ro → Rz O) : TE := fun σ H Q => ∃ ρ G S, Sm K G H ρ σ S ∧ eO K mg W p σ G H Q (f ρ)
def tD (K : KF) (mg : Mg) (W : WX) (f : Ro → Rz D) : TE := fun σ H Q => ∃ ρ G S, Sm K G H ρ σ S ∧ eD K mg W σ G H Q (f ρ)
def tDs (K : KF) (mg : Mg) (W : WX) (f : Ro → Rz (List D)) : TA := fun σ H Q => ∃ ρ G S, Sm K G H ρ σ S ∧ eDs K mg W σ G H Q (f ρ)
def tOs (K : KF) (mg : Mg) (W : WX) (f : Ro → Rz (List O)) : TA := fun σ H Q => ∃ ρ G S, Sm K G H ρ σ S ∧ eOs K mg W σ G H Q (f ρ)
def tNs (K : KF) (mg : Mg) (W : WX) (f : Ro → Rz (List O)) : TA := fun σ H Q => ∃ ρ G S, Sm K G H ρ σ S ∧ eNs K mg W σ G H Q (f ρ)
def tT (K : KF) (mg : Mg) (W : WX) (f : Ro → Rz Bool) : TT := fun σ H Q => ∃ ρ G S, Sm K G H ρ σ S ∧ eT mg W σ G H Q (f ρ)

theorem PE.wk {X : Cx} {e : Expr} {t t' : TE} (h : PE X e t) (k : ∀ σ H Q, t' σ H Q → t σ H Q) : PE X e t' := ⟨fun pins s σ H Q I q => h.run pins s σ H Q I (k σ H Q q)⟩
theorem PT.wk {X : Cx} {e : Expr} {t t' : TT} (h : PT X e t) (k : ∀ σ H Q, t' σ H Q → t σ H Q) : PT X e t' := ⟨fun pins s σ H Q I q => h.run pins s σ H Q I (k σ H Q q)⟩
theorem PA.wk {X : Cx} {e : List Expr} {t t' : TA} (h : PA X e t) (k : ∀ σ H Q, t' σ H Q → t σ H Q) : PA X e t' := ⟨fun pos pins s σ H Q I q => h.run pos pins s σ H Q I (k σ H Q q)⟩

/-- an expression is worth f -/
abbrev PQ (X : Cx) (W : WX) (p : Bool) (e : Expr) (f : Ro → Rz O) : Prop := PE X e (tO X.K X.mg W p f)
abbrev PD (X : Cx) (W : WX) (e : Expr) (f : Ro → Rz D) : Prop := PE X e (tD X.K X.mg W f)
abbrev PDs (X : Cx) (W : WX) (es : List Expr) (f : Ro → Rz (List D)) : Prop := PA X es (tDs X.K X.mg W f)
abbrev POs (X : Cx) (W : WX) (es : List Expr) (f : Ro → Rz (List O)) : Prop := PA X es (tOs X.K X.mg W f)
abbrev PNs (X : Cx) (W : WX) (es : List Expr) (f : Ro → Rz (List O)) : Prop := PA X es (tNs X.K X.mg W f)
abbrev PB (X : Cx) (W : WX) (e : Expr) (f : Ro → Rz Bool) : Prop := PT X e (tT X.K X.mg W f)

/-- as known data: what is new is given away; a part of a slot must be known -/
def toD (p : Bool) (o : O) : Rz D := match p, o with
  | _, .fz d => .ok d
  | false, o => .ok o.d
  | true, _ => .st

def NoRs {α β γ : Type} (g : α → β → Rz γ) : Prop := ∀ a b c, g a b ≠ .rs c
def oVar (i : Nat) (ρ : Ro) : Rz O := match ρ[i]? with
  | some (some o) => .ok o
  | _ => .st

section
variable {X : Cx} {W : WX} {a b c : Expr} {fa fb fc : Ro → Rz O} {p q : Bool} {pos : Pos}

theorem fp_of {K : KF} {G H G1 H1 : Hp} {Q : VK} {o : O} {p : Bool} (x : Xt G H G1 H1)
    (h : ∀ v G' H' T, Xt G H G' H' → Or K G' H' v o T → (p = false → T.Nodup ∧ ∀ a ∈ T, H a = none ∧ G' a = none) → Q v H') : FP K G1 H1 Q o := fun v G' H' T y r nd fr =>
  h v G' H' T (x.trans y) r fun _ => ⟨nd, fun a ha => ⟨back_none x.h (fr a ha).1, (fr a ha).2⟩⟩
/-- the end of a part whose whole ends with hq -/
theorem eO_up {K : KF} {mg : Mg} {σ : L2.St} {G H G1 H1 : Hp} {Q : VK} {r : Rz O} (h : eO K mg W p σ G H Q r) (x : Xt G H G1 H1) : eO K mg W p σ G1 H1 Q r := by
  cases r with
  | ok o => exact fun v G' H' T y r fr => h v G' H' T (x.trans y) r fun z => ⟨(fr z).1, fun a ha => ⟨back_none x.h ((fr z).2 a ha).1, ((fr z).2 a ha).2⟩⟩
  | rs c => exact rsW.up h x
  | st => exact h
theorem eD_up {K : KF} {mg : Mg} {σ : L2.St} {G H G1 H1 : Hp} {Q : VK} {r : Rz D} (h : eD K mg W σ G H Q r) (x : Xt G H G1 H1) : eD K mg W σ G1 H1 Q r := by
  cases r with
  | ok o => exact fun v G' H' y r => h v G' H' (x.trans y) r
  | rs c => exact rsW.up h x
  | st => exact h
theorem eDs_up {K : KF} {mg : Mg} {σ : L2.St} {G H G1 H1 : Hp} {Q : List V → Hp → Prop} {r : Rz (List D)} (h : eDs K mg W σ G H Q r) (x : Xt G H G1 H1) : eDs K mg W σ G1 H1 Q r := by
  cases r with
  | ok o => exact fun v G' H' y r => h v G' H' (x.trans y) r
  | rs c => exact rsW.up h x
  | st => exact h
theorem eOs_up {K : KF} {mg : Mg} {σ : L2.St} {G H G1 H1 : Hp} {Q : List V → Hp → Prop} {r : Rz (List O)} (h : eOs K mg W σ G H Q r) (x : Xt G H G1 H1) : eOs K mg W σ G1 H1 Q r := by
  cases r with
  | ok o => exact fun v G' H' y r => h v G' H' (x.trans y) r
  | rs c => exact rsW.up h x
  | st => exact h
theorem eNs_up {K : KF} {mg : Mg} {σ : L2.St} {G H G1 H1 : Hp} {Q : List V → Hp → Prop} {r : Rz (List O)} (h : eNs K mg W σ G H Q r) (x : Xt G H G1 H1) : eNs K mg W σ G1 H1 Q r := by
  cases r with
  | ok o => exact fun v G' H' T y r nd fr => h v G' H' T (x.trans y) r nd fun a ha => ⟨back_none x.h (fr a ha).1, (fr a ha).2⟩
  | rs c => exact rsW.up h x
  | st => exact h
theorem eT_up {mg : Mg} {σ : L2.St} {G H G1 H1 : Hp} {Q : Bool → Hp → Prop} {r : Rz Bool} (h : eT mg W σ G H Q r) (x : Xt G H G1 H1) : eT mg W σ G1 H1 Q r := by
  cases r with
  | ok o => exact fun G' H' y => h G' H' (x.trans y)
  | rs c => exact rsW.up h x
  | st => exact h

theorem po_weak (h : PQ X W false a fa) : PQ X W true a fa := PE.wk h fun σ H Q ⟨ρ, G, S, m, hq⟩ => by
  refine ⟨ρ, G, S, m, ?_⟩
  try dsimp only at hq
  cases e : fa ρ with
  | ok o => rw [e] at hq; exact fun v G' H' T x r _ => hq v G' H' T x r fun z => by cases z
  | rs c => rw [e] at hq; exact hq
  | st => rw [e] at hq; exact hq
theorem po_d (h : PQ X W p a fa) : PD X W a (fun ρ => (fa ρ).bind (toD p)) := PE.wk h fun σ H Q ⟨ρ, G, S, m, hq⟩ => by
  refine ⟨ρ, G, S, m, ?_⟩
  try dsimp only at hq
  cases e : fa ρ with
  | ok o =>
    rw [e] at hq
    have hq : eD X.K X.mg W σ G H Q (toD p o) := hq
    intro v G' H' T x r fr
    cases o with
    | fz d =>
      cases r with
      | fz r =>
        cases p with
        | true => exact hq v G' H' x r
        | false => exact hq v G' H' x r
    | ol xs =>
      cases p with
      | true => exact hq.elim
      | false => exact hq v _ H' (x.giv fun a ha => ((fr rfl).2 a ha).1) (Or.give x.s T _ _ _ (fun _ h => h) r)
    | ot xs =>
      cases p with
      | true => exact hq.elim
      | false => exact hq v _ H' (x.giv fun a ha => ((fr rfl).2 a ha).1) (Or.give x.s T _ _ _ (fun _ h => h) r)
  | rs c => rw [e] at hq; exact hq
  | st => rw [e] at hq; exact hq
theorem pd_o {f : Ro → Rz D} (h : PD X W a f) : PQ X W p a (fun ρ => (f ρ).bind fun d => .ok (.fz d)) := PE.wk h fun σ H Q ⟨ρ, G, S, m, hq⟩ => by
  refine ⟨ρ, G, S, m, ?_⟩
  try dsimp only at hq
  cases e : f ρ with
  | ok d =>
    rw [e] at hq
    exact fun v G' H' x r => hq v G' H' [] x (.fz r) fun _ => ⟨.nil, fun a ha => absurd ha (by simp)⟩
  | rs c => rw [e] at hq; exact hq
  | st => rw [e] at hq; exact hq

/-! ### names, constants -/
theorem po_v {i : Nat} {x : Str} (hN : X.N[i]? = some x) (hv : Vis X.env.scope x) (hd : (x == ("__debug__" : Str)) = false) (hcd : (x == ("__classdict__" : Str)) = false) :
    PQ X W true (.Name x pos) (oVar i) := PE.wk (pe_var hN hv hd hcd) fun σ H Q ⟨ρ, G, S, m, hq⟩ => by
  unfold oVar at hq
  split at hq
  · next o e =>
    obtain ⟨v, T, h1, h2, _⟩ := m.sl.get e
    exact ⟨v, h1, hq v G H T (Xt.refl m.le) h2 fun z => by cases z⟩
  · exact hq.elim
theorem pd_c {v : V} {d : D} (h : PE X a (tC v)) (r : ∀ G, Rp X.K G v d) : PD X W a (fun _ => .ok d) := PE.wk h fun σ H Q ⟨ρ, G, S, m, hq⟩ => hq v G H (Xt.refl m.le) (r G)

/-! ### operators -/
theorem two_t {K : KF} {mg : Mg} {g : O → O → Rz O} (hg : NoRs g) {σ : L2.St} {H : Hp} {Q : VK} {pp : Bool} (h : tO K mg W pp (fun ρ => (fa ρ).bind fun x => (fb ρ).bind fun y => g x y) σ H Q) :
    tOp (r2 K g) (tO K mg W p fa) (tO K mg W q fb) σ H Q := by
  obtain ⟨ρ, G, S, m, hq⟩ := h
  refine ⟨ρ, G, S, m, ?_⟩
  try dsimp only at hq
  cases e : fa ρ with
  | ok o1 =>
    rw [e] at hq
    intro v1 G1 H1 T1 x1 r1 _
    refine ⟨ρ, G1, S, m.up x1, ?_⟩
    have hq : eO K mg W pp σ G H Q ((fb ρ).bind fun y => g o1 y) := hq
    cases e2 : fb ρ with
    | ok o2 =>
      rw [e2] at hq
      intro v2 G2 H2 T2 x2 r2' _
      have hq : eO K mg W pp σ G H Q (g o1 o2) := hq
      cases e3 : g o1 o2 with
      | ok o =>
        rw [e3] at hq
        exact ⟨G2, o1, o2, T1, T2, o, x2.s, r1.up x2.g x2.h, r2', e3, fp_of (x1.trans x2) hq⟩
      | rs c => exact (hg _ _ _ e3).elim
      | st => rw [e3] at hq; exact hq.elim
    | rs c =>
      rw [e2] at hq
      exact rsW.up hq x1
    | st => rw [e2] at hq; exact hq
  | rs c => rw [e] at hq; exact hq
  | st => rw [e] at hq; exact hq
theorem po_op {op : Operator} {g : O → O → Rz O} (hg : NoRs g) (ho : OpR X (binaryOp op) (r2 X.K g)) (ha : PQ X W p a fa) (hb : PQ X W q b fb) :
    PQ X W false (.BinOp a op b pos) (fun ρ => (fa ρ).bind fun x => (fb ρ).bind fun y => g x y) := PE.wk (pe_op ho ha hb) fun _ _ _ h => two_t hg h
theorem po_cmp {op : CmpOp} {g : O → O → Rz O} (hg : NoRs g) (ho : OpR X (compareOp op) (r2 X.K g)) (hm : behindInMarks op b = false) (ha : PQ X W p a fa) (hb : PQ X W q b fb) :
    PQ X W false (.Compare a [op] [b] pos) (fun ρ => (fa ρ).bind fun x => (fb ρ).bind fun y => g x y) := PE.wk (pe_cmpR ho ha hb hm) fun _ _ _ h => two_t hg h
def oTru0 : O → Rz Bool
  | .fz (.bool b) => .ok b
  | _ => .st
theorem tT_of {K : KF} {mg : Mg} {f : Ro → Rz O} {t : TE} {σ : L2.St} {H : Hp} {Q : Bool → Hp → Prop} (ht : ∀ Q, tO K mg W false f σ H Q → t σ H Q) (h : tT K mg W (fun ρ => (f ρ).bind oTru0) σ H Q) : tTest t σ H Q := by
  refine ht _ ?_
  obtain ⟨ρ, G, S, m, hq⟩ := h
  refine ⟨ρ, G, S, m, ?_⟩
  try dsimp only at hq
  cases e : f ρ with
  | ok o =>
    rw [e] at hq
    have hq : eT mg W σ G H Q (oTru0 o) := hq
    intro v G' H' T x r _
    unfold oTru0 at hq
    split at hq
    · next => exact ⟨_, r.bool, hq G' H' x⟩
    · exact hq.elim
  | rs c => rw [e] at hq; exact hq
  | st => rw [e] at hq; exact hq
theorem pb_cmp {op : CmpOp} {g : O → O → Rz O} (hg : NoRs g) (ho : OpR X (compareOp op) (r2 X.K g)) (hm : behindInMarks op b = false) (ha : PQ X W p a fa) (hb : PQ X W q b fb) :
    PB X W (.Compare a [op] [b] pos) (fun ρ => ((fa ρ).bind fun x => (fb ρ).bind fun y => g x y).bind oTru0) :=
  PT.wk (pt_cmpR ho ha hb hm) fun _ _ _ h => tT_of (fun _ h' => two_t hg h') h
end
end Mw
/-! Mw7: built-ins and methods on data; and, or, displays, subscripts, slices, calls. -/
namespace Mw
open PySem PySem.Spec PyProof.Rows L2

theorem noRs_tac {α β γ : Type} {g : α → β → Rz γ} (h : ∀ a b, match g a b with | .rs _ => False | _ => True) : NoRs g := fun a b c e => by
  have := h a b
  rw [e] at this
  exact this
theorem nr_add : NoRs oAdd := fun a b c h => by
  unfold oAdd at h
  repeat' split at h
  all_goals cases h
theorem nr_sub : NoRs oSub := fun a b c h => by
  unfold oSub at h
  repeat' split at h
  all_goals cases h
theorem nr_mul : NoRs oMul := fun a b c h => by
  unfold oMul at h
  repeat' split at h
  all_goals cases h
theorem nr_div : NoRs oDiv := fun a b c h => by
  unfold oDiv at h
  repeat' split at h
  all_goals cases h
theorem nr_mod : NoRs oMod := fun a b c h => by
  unfold oMod at h
  repeat' split at h
  all_goals cases h
theorem nr_lt : NoRs oLt := fun a b c h => by
  unfold oLt oB at h
  repeat' split at h
  all_goals cases h
theorem nr_le : NoRs oLe := fun a b c h => by
  unfold oLe oB at h
  repeat' split at h
  all_goals cases h
theorem nr_gt : NoRs oGt := fun a b c h => by
  unfold oGt oB at h
  repeat' split at h
  all_goals cases h
theorem nr_ge : NoRs oGe := fun a b c h => by
  unfold oGe oB at h
  repeat' split at h
  all_goals cases h
theorem nr_eq {k : Nat} : NoRs (oEq k) := fun a b c h => by
  unfold oEq oB at h
  repeat' split at h
  all_goals cases h
theorem nr_ne {k : Nat} : NoRs (oNe k) := fun a b c h => by
  unfold oNe oB at h
  repeat' split at h
  all_goals cases h
theorem nr_in {k : Nat} : NoRs (oIn k) := fun a b c h => by
  unfold oIn oB at h
  repeat' split at h
  all_goals cases h
theorem nr_ni {k : Nat} : NoRs (oNi k) := fun a b c h => by
  unfold oNi at h
  cases e : oIn k a b with
  | ok o =>
    rw [e] at h
    simp only [Rz.bind_ok, oB] at h
    split at h <;> cases h
  | rs d => exact nr_in _ _ _ e
  | st => rw [e] at h; cases h

/-! ### built-in functions -/
theorem orB1 {K : KF} {G H : Hp} {xs : List V} {o : O} (h : OrB K G H xs [o]) : ∃ v S, xs = [v] ∧ Or K G H v o S := by
  cases h with
  | cons h1 h2 => cases h2; exact ⟨_, _, rfl, h1⟩
theorem orB2 {K : KF} {G H : Hp} {xs : List V} {o p : O} (h : OrB K G H xs [o, p]) : ∃ v w S T, xs = [v, w] ∧ Or K G H v o S ∧ Or K G H w p T := by
  cases h with
  | cons h1 h2 =>
    cases h2 with
    | cons h3 h4 => cases h4; exact ⟨_, _, _, _, rfl, h1, h3⟩
theorem OrA.length {K : KF} {G H : Hp} : ∀ {vs : List V} {os : List O} {S : List Addr}, OrA K G H vs os S → vs.length = os.length
  | _, _, _, .nil => rfl
  | _, _, _, .cons _ h => by rw [List.length_cons, List.length_cons, OrA.length h]
/-- how many things stand in it -/
def O.len? : O → Option Nat
  | .fz (.list ds) => some ds.length
  | .fz (.tuple ds) => some ds.length
  | .ol os => some os.length
  | .ot os => some os.length
  | _ => none
theorem Or.isLen {K : KF} {G H : Hp} {v : V} {o : O} {S : List Addr} {n : Nat} (h : Or K G H v o S) (e : Le G H) (q : o.len? = some n) : ∃ a vs, v = .ref a ∧ (SqL K H a vs ∨ SqT K H a vs) ∧ vs.length = n := by
  cases h with
  | @fz _ d r =>
    cases r with
    | lst h1 h2 => cases q; exact ⟨_, _, rfl, .inl (sqL_le e h1), h2.length⟩
    | tup h1 h2 => cases q; exact ⟨_, _, rfl, .inr (sqT_le e h1), h2.length⟩
    | _ => cases q
  | ol h1 h2 => cases q; exact ⟨_, _, rfl, .inl (.of h1), h2.length⟩
  | ot h1 h2 => cases q; exact ⟨_, _, rfl, .inr (.of h1), h2.length⟩
def bools? : List D → Option (List Bool)
  | [] => some []
  | .bool b :: r => (bools? r).map (b :: ·)
  | _ :: _ => none
def ints? : List D → Option (List Int)
  | [] => some []
  | .int b :: r => (ints? r).map (b :: ·)
  | _ :: _ => none
def strs? : List D → Option (List Str)
  | [] => some []
  | .str b :: r => (strs? r).map (b :: ·)
  | _ :: _ => none
theorem bools?_some : ∀ {ds : List D} {bs : List Bool}, bools? ds = some bs → ds = bs.map .bool
  | [], _, h => by cases h; rfl
  | .bool b :: r, _, h => by
    obtain ⟨x, hx, rfl⟩ := Option.map_eq_some_iff.mp (show (bools? r).map (b :: ·) = some _ from h)
    rw [bools?_some hx]; rfl
theorem ints?_some : ∀ {ds : List D} {bs : List Int}, ints? ds = some bs → ds = bs.map .int
  | [], _, h => by cases h; rfl
  | .int b :: r, _, h => by
    obtain ⟨x, hx, rfl⟩ := Option.map_eq_some_iff.mp (show (ints? r).map (b :: ·) = some _ from h)
    rw [ints?_some hx]; rfl
theorem strs?_some : ∀ {ds : List D} {bs : List Str}, strs? ds = some bs → ds = bs.map .str
  | [], _, h => by cases h; rfl
  | .str b :: r, _, h => by
    obtain ⟨x, hx, rfl⟩ := Option.map_eq_some_iff.mp (show (strs? r).map (b :: ·) = some _ from h)
    rw [strs?_some hx]; rfl
@[simp] theorem bools?_map : ∀ bs : List Bool, bools? (bs.map .bool) = some bs
  | [] => rfl
  | b :: r => by show (bools? (r.map .bool)).map (b :: ·) = _; rw [bools?_map r]; rfl
@[simp] theorem ints?_map : ∀ bs : List Int, ints? (bs.map .int) = some bs
  | [] => rfl
  | b :: r => by show (ints? (r.map .int)).map (b :: ·) = _; rw [ints?_map r]; rfl
@[simp] theorem strs?_map : ∀ bs : List Str, strs? (bs.map .str) = some bs
  | [] => rfl
  | b :: r => by show (strs? (r.map .str)).map (b :: ·) = _; rw [strs?_map r]; rfl
theorem rpA_bools {K : KF} {G : Hp} : ∀ {vs : List V} {bs : List Bool}, RpA K G vs (bs.map .bool) → vs = bs.map .bl
  | _, [], h => by cases h; rfl
  | _, b :: r, h => by
    cases h with
    | cons h1 h2 => cases h1; rw [rpA_bools h2]; rfl
theorem rpA_ints {K : KF} {G : Hp} : ∀ {vs : List V} {bs : List Int}, RpA K G vs (bs.map .int) → vs = bs.map .int
  | _, [], h => by cases h; rfl
  | _, b :: r, h => by
    cases h with
    | cons h1 h2 => cases h1; rw [rpA_ints h2]; rfl
theorem rpA_strs {K : KF} {G : Hp} : ∀ {vs : List V} {bs : List Str}, RpA K G vs (bs.map .str) → vs = bs.map .str
  | _, [], h => by cases h; rfl
  | _, b :: r, h => by
    cases h with
    | cons h1 h2 => cases h1; rw [rpA_strs h2]; rfl

def oLen : List O → Rz O
  | [.fz (.str x)] => if x.length ≤ sizeLine then .ok (.fz (.int x.length)) else .st
  | [a] => match a.len? with
    | some n => .ok (.fz (.int n))
    | none => .st
  | _ => .st
def oList : List O → Rz O
  | [a] => match a.seq? with
    | some ds => .ok (.ol (ds.map .fz))
    | none => .st
  | _ => .st
def oTuple : List O → Rz O
  | [.fz (.tuple ds)] => .ok (.fz (.tuple ds))
  | [a] => match a.lst? with
    | some ds => .ok (.fz (.tuple ds))
    | none => .st
  | _ => .st
def oMax : List O → Rz O
  | [.fz (.int i), .fz (.int j)] => .ok (.fz (.int (if j > i then j else i)))
  | _ => .st
def oMin : List O → Rz O
  | [.fz (.int i), .fz (.int j)] => .ok (.fz (.int (if j < i then j else i)))
  | _ => .st
def oAll : List O → Rz O
  | [a] => match a.lst?.bind bools? with
    | some bs => oB (bs.all id)
    | none => .st
  | _ => .st
def oAny : List O → Rz O
  | [a] => match a.lst?.bind bools? with
    | some bs => oB (bs.any id)
    | none => .st
  | _ => .st
def oSum : List O → Rz O
  | [a] => match a.lst?.bind ints? with
    | some ns => .ok (.fz (.int ns.sum))
    | none => .st
  | _ => .st
def oStr : List O → Rz O
  | [.fz (.int i)] => if i.natAbs.log2 < 1920 then .ok (.fz (.str (toString i))) else .st
  | _ => .st
def oInt : List O → Rz O
  | [.fz (.int i)] => .ok (.fz (.int i))
  | [.fz (.bool k)] => .ok (.fz (.int (if k then 1 else 0)))
  | _ => .st
section
variable {X : Cx}
theorem rl_len : CallR X (.builtin "len") (rN X.K oLen) := by
  intro pins s σ H xs us Q I r h
  obtain ⟨G, os, o, e, hb, hf, q⟩ := h
  unfold oLen at hf
  split at hf
  · split at hf
    · cases hf
      obtain ⟨v, S, rfl, h1⟩ := orB1 hb
      exact call_len_str pins s σ H _ us Q I r ⟨_, by rw [h1.str], by assumption, q.sc e (.int _)⟩
    · cases hf
  · split at hf
    · next n hn =>
      cases hf
      obtain ⟨v, S, rfl, h1⟩ := orB1 hb
      obtain ⟨a, vs, rfl, k, l⟩ := h1.isLen e hn
      exact call_len_seq pins s σ H _ us Q I r ⟨a, vs, rfl, k, by rw [l]; exact q.sc e (.int _)⟩
    · cases hf
  · cases hf
theorem rl_list : CallR X (.type "list") (rN X.K oList) := by
  intro pins s σ H xs us Q I r h
  obtain ⟨G, os, o, e, hb, hf, q⟩ := h
  unfold oList at hf
  split at hf
  · split at hf
    · next ds hn =>
      cases hf
      obtain ⟨v, S, rfl, h1⟩ := orB1 hb
      obtain ⟨a, vs, rfl, k, l⟩ := h1.isSeq e hn
      exact call_list_of pins s σ H _ us Q I r ⟨a, vs, rfl, k, q.lstD e l⟩
    · cases hf
  · cases hf
theorem rl_tuple : CallR X (.type "tuple") (rN X.K oTuple) := by
  intro pins s σ H xs us Q I r h
  obtain ⟨G, os, o, e, hb, hf, q⟩ := h
  unfold oTuple at hf
  split at hf
  · cases hf
    obtain ⟨v, S, rfl, h1⟩ := orB1 hb
    cases h1 with
    | fz r1 =>
      have r0 := r1
      cases r1 with
      | tup k1 k2 => exact call_tuple_of pins s σ H _ us Q I r ⟨_, _, rfl, .inr ⟨sqT_le e k1, q.sc e r0⟩⟩
  · split at hf
    · next ds hn =>
      cases hf
      obtain ⟨v, S, rfl, h1⟩ := orB1 hb
      obtain ⟨a, vs, rfl, k, l⟩ := h1.isLst e hn
      exact call_tuple_of pins s σ H _ us Q I r ⟨a, vs, rfl, .inl ⟨k, q.tup e l⟩⟩
    · cases hf
  · cases hf
theorem rl_max (hc : X.calm = true) : CallR X (.builtin "max") (rN X.K oMax) := by
  intro pins s σ H xs us Q I r h
  obtain ⟨G, os, o, e, hb, hf, q⟩ := h
  unfold oMax at hf
  split at hf
  · cases hf
    obtain ⟨v, w, S, T, rfl, h1, h2⟩ := orB2 hb
    exact call_max2 hc pins s σ H _ us Q I r ⟨_, _, by rw [h1.int, h2.int], q.sc e (.int _)⟩
  · cases hf
theorem rl_min (hc : X.calm = true) : CallR X (.builtin "min") (rN X.K oMin) := by
  intro pins s σ H xs us Q I r h
  obtain ⟨G, os, o, e, hb, hf, q⟩ := h
  unfold oMin at hf
  split at hf
  · cases hf
    obtain ⟨v, w, S, T, rfl, h1, h2⟩ := orB2 hb
    exact call_min2 hc pins s σ H _ us Q I r ⟨_, _, by rw [h1.int, h2.int], q.sc e (.int _)⟩
  · cases hf
theorem rl_all (hc : X.calm = true) : CallR X (.builtin "all") (rN X.K oAll) := by
  intro pins s σ H xs us Q I r h
  obtain ⟨G, os, o, e, hb, hf, q⟩ := h
  unfold oAll at hf
  split at hf
  · split at hf
    · next bs hn =>
      cases hf
      obtain ⟨ds, h3, h4⟩ := Option.bind_eq_some_iff.mp hn
      obtain ⟨v, S, rfl, h1⟩ := orB1 hb
      obtain ⟨a, vs, rfl, k, l⟩ := h1.isLst e h3
      rw [bools?_some h4] at l
      have ev := rpA_bools l
      subst ev
      exact cr_all hc pins s σ H _ us Q I r ⟨a, bs, rfl, k, q.sc e (.bl _)⟩
    · cases hf
  · cases hf
theorem rl_any (hc : X.calm = true) : CallR X (.builtin "any") (rN X.K oAny) := by
  intro pins s σ H xs us Q I r h
  obtain ⟨G, os, o, e, hb, hf, q⟩ := h
  unfold oAny at hf
  split at hf
  · split at hf
    · next bs hn =>
      cases hf
      obtain ⟨ds, h3, h4⟩ := Option.bind_eq_some_iff.mp hn
      obtain ⟨v, S, rfl, h1⟩ := orB1 hb
      obtain ⟨a, vs, rfl, k, l⟩ := h1.isLst e h3
      rw [bools?_some h4] at l
      have ev := rpA_bools l
      subst ev
      exact cr_any hc pins s σ H _ us Q I r ⟨a, bs, rfl, k, q.sc e (.bl _)⟩
    · cases hf
  · cases hf
theorem rl_sum (hc : X.calm = true) : CallR X (.builtin "sum") (rN X.K oSum) := by
  intro pins s σ H xs us Q I r h
  obtain ⟨G, os, o, e, hb, hf, q⟩ := h
  unfold oSum at hf
  split at hf
  · split at hf
    · next bs hn =>
      cases hf
      obtain ⟨ds, h3, h4⟩ := Option.bind_eq_some_iff.mp hn
      obtain ⟨v, S, rfl, h1⟩ := orB1 hb
      obtain ⟨a, vs, rfl, k, l⟩ := h1.isLst e h3
      rw [ints?_some h4] at l
      have ev := rpA_ints l
      subst ev
      exact cr_sum hc pins s σ H _ us Q I r ⟨a, bs, rfl, k, q.sc e (.int _)⟩
    · cases hf
  · cases hf
theorem rl_str : CallR X (.type "str") (rN X.K oStr) := by
  intro pins s σ H xs us Q I r h
  obtain ⟨G, os, o, e, hb, hf, q⟩ := h
  unfold oStr at hf
  split at hf
  · split at hf
    · cases hf
      obtain ⟨v, S, rfl, h1⟩ := orB1 hb
      exact call_str_int pins s σ H _ us Q I r ⟨_, by rw [h1.int], by assumption, q.sc e (.str _)⟩
    · cases hf
  · cases hf
theorem rl_int : CallR X (.type "int") (rN X.K oInt) := by
  intro pins s σ H xs us Q I r h
  obtain ⟨G, os, o, e, hb, hf, q⟩ := h
  unfold oInt at hf
  split at hf
  · cases hf
    obtain ⟨v, S, rfl, h1⟩ := orB1 hb
    exact call_int1 pins s σ H _ us Q I r (.inl ⟨_, by rw [h1.int], q.sc e (.int _)⟩)
  · cases hf
    obtain ⟨v, S, rfl, h1⟩ := orB1 hb
    exact call_int1 pins s σ H _ us Q I r (.inr ⟨_, by rw [h1.bool], q.sc e (.int _)⟩)
  · cases hf

/-! ### truth -/
def oTru : O → Rz Bool
  | .fz .none => .ok false
  | .fz (.bool b) => .ok b
  | .fz (.int i) => .ok (i != 0)
  | .fz (.str x) => if x.length ≤ sizeLine then .ok ((x.length : Int) != 0) else .st
  | o => match o.len? with
    | some n => .ok (n != 0)
    | none => .st
theorem len_ne {vs : List V} {n : Nat} (h : vs.length = n) : (n != 0) = !vs.isEmpty := by
  subst h
  cases vs <;> rfl
theorem rl_tru {K : KF} {G H : Hp} {v : V} {o : O} {S : List Addr} {b : Bool} (h : Or K G H v o S) (e : Le G H) (q : oTru o = .ok b) : TruV K v H b := by
  have gen : ∀ n, o.len? = some n → TruV K v H (n != 0) := fun n hn => by
    obtain ⟨a, vs, rfl, k, l⟩ := h.isLen e hn
    rcases k with k | k
    · exact .inl ⟨vs, k, len_ne l⟩
    · exact .inr (.inl ⟨vs, k, len_ne l⟩)
  unfold oTru at q
  split at q
  · cases q; cases h with | fz r => cases r; rfl
  · cases q; rw [h.bool]; rfl
  · cases q; rw [h.int]; rfl
  · split at q
    · cases q; rw [h.str]; exact ⟨by assumption, rfl⟩
    · cases q
  · split at q
    · next n hn => cases q; exact gen n hn
    · cases q
end
end Mw
/-! Mw8: and, or, displays, subscripts, slices, calls. -/
namespace Mw
open PySem PySem.Spec PyProof.Rows L2

theorem PW.wk {X : Cx} {e : Expr} {t t' : TT} (h : PW X e t) (k : ∀ σ H Q, t' σ H Q → t σ H Q) : PW X e t' := ⟨fun wh pins s σ H Q I q => h.run wh pins s σ H Q I (k σ H Q q)⟩
abbrev PBw (X : Cx) (W : WX) (e : Expr) (f : Ro → Rz Bool) : Prop := PW X e (tT X.K X.mg W f)
def bAnd (f g : Ro → Rz Bool) (ρ : Ro) : Rz Bool := (f ρ).bind fun c => match c with | true => g ρ | false => .ok false
def bOr (f g : Ro → Rz Bool) (ρ : Ro) : Rz Bool := (f ρ).bind fun c => match c with | true => .ok true | false => g ρ
def bNot (f : Ro → Rz Bool) (ρ : Ro) : Rz Bool := (f ρ).bind fun c => .ok (!c)
def vAnd (f g : Ro → Rz O) (ρ : Ro) : Rz O := (f ρ).bind fun c => match c with | .fz (.bool true) => g ρ | .fz (.bool false) => .ok (.fz (.bool false)) | _ => .st
def vOr (f g : Ro → Rz O) (ρ : Ro) : Rz O := (f ρ).bind fun c => match c with | .fz (.bool true) => .ok (.fz (.bool true)) | .fz (.bool false) => g ρ | _ => .st
def vNot (f : Ro → Rz O) (ρ : Ro) : Rz O := (f ρ).bind fun c => match c with | .fz (.bool b) => .ok (.fz (.bool (!b))) | _ => .st
def vIf (c : Ro → Rz Bool) (f g : Ro → Rz O) (ρ : Ro) : Rz O := (c ρ).bind fun b => match b with | true => f ρ | false => g ρ

section
variable {X : Cx} {W : WX} {a b c : Expr} {rest : List Expr} {fa fb fc : Ro → Rz O} {ba bb bc : Ro → Rz Bool} {p q : Bool} {pos : Pos}

theorem pb_and (ha : PB X W a ba) (hb : PBw X W (.BoolOp .And (b :: rest) pos) bb) : PBw X W (.BoolOp .And (a :: b :: rest) pos) (bAnd ba bb) := PW.wk (pw_and ha hb) fun σ H Q ⟨ρ, G, S, m, hq⟩ => by
  refine ⟨ρ, G, S, m, ?_⟩
  unfold bAnd at hq
  cases e : ba ρ with
  | ok k =>
    rw [e] at hq
    intro G' H' x
    cases k with
    | true => exact iteT ⟨ρ, G', S, m.up x, eT_up hq x⟩
    | false => exact iteF (hq G' H' x)
  | rs c => rw [e] at hq; exact hq
  | st => rw [e] at hq; exact hq
theorem pb_or (ha : PB X W a ba) (hb : PBw X W (.BoolOp .Or (b :: rest) pos) bb) : PBw X W (.BoolOp .Or (a :: b :: rest) pos) (bOr ba bb) := PW.wk (pw_or ha hb) fun σ H Q ⟨ρ, G, S, m, hq⟩ => by
  refine ⟨ρ, G, S, m, ?_⟩
  unfold bOr at hq
  cases e : ba ρ with
  | ok k =>
    rw [e] at hq
    intro G' H' x
    cases k with
    | true => exact iteT (hq G' H' x)
    | false => exact iteF ⟨ρ, G', S, m.up x, eT_up hq x⟩
  | rs c => rw [e] at hq; exact hq
  | st => rw [e] at hq; exact hq
theorem pb_not (ha : PB X W a ba) : PB X W (.UnaryOp .Not a pos) (bNot ba) := PT.wk (pt_not ha) fun σ H Q ⟨ρ, G, S, m, hq⟩ => by
  refine ⟨ρ, G, S, m, ?_⟩
  unfold bNot at hq
  cases e : ba ρ with
  | ok k => rw [e] at hq; exact hq
  | rs c => rw [e] at hq; exact hq
  | st => rw [e] at hq; exact hq
theorem pb_val (ha : PQ X W p a fa) (he : ∀ whole, isTrue a X.env whole = (do let v ← whole; standAt a.pos; holding [v] (truthy v))) : PB X W a (fun ρ => (fa ρ).bind oTru) := PT.wk (pt_truth ha he) fun σ H Q ⟨ρ, G, S, m, hq⟩ => by
  refine ⟨ρ, G, S, m, ?_⟩
  try dsimp only at hq
  cases e : fa ρ with
  | ok o =>
    rw [e] at hq
    intro v G' H' T x r _
    have hq : eT X.mg W σ G H Q (oTru o) := hq
    cases e2 : oTru o with
    | ok k => rw [e2] at hq; exact ⟨k, rl_tru r x.s e2, hq G' H' x⟩
    | rs c =>
      unfold oTru at e2
      repeat' split at e2
      all_goals cases e2
    | st => rw [e2] at hq; exact hq.elim
  | rs c => rw [e] at hq; exact hq
  | st => rw [e] at hq; exact hq
theorem po_and (ha : PQ X W p a fa) (hb : PQ X W q (.BoolOp .And (b :: rest) pos) fb) : PQ X W q (.BoolOp .And (a :: b :: rest) pos) (vAnd fa fb) := PE.wk (pe_and ha hb) fun σ H Q ⟨ρ, G, S, m, hq⟩ => by
  refine ⟨ρ, G, S, m, ?_⟩
  unfold vAnd at hq
  cases e : fa ρ with
  | ok o =>
    rw [e] at hq
    simp only [Rz.bind_ok] at hq
    intro v G' H' T x r _
    split at hq
    · exact ⟨true, r.bool, iteT ⟨ρ, G', S, m.up x, eO_up hq x⟩⟩
    · exact ⟨false, r.bool, iteF (hq _ G' H' [] x (.fz (.bl false)) fun _ => ⟨.nil, fun _ h => absurd h (by simp)⟩)⟩
    · exact hq.elim
  | rs c => rw [e] at hq; exact hq
  | st => rw [e] at hq; exact hq
theorem po_or (ha : PQ X W p a fa) (hb : PQ X W q (.BoolOp .Or (b :: rest) pos) fb) : PQ X W q (.BoolOp .Or (a :: b :: rest) pos) (vOr fa fb) := PE.wk (pe_or ha hb) fun σ H Q ⟨ρ, G, S, m, hq⟩ => by
  refine ⟨ρ, G, S, m, ?_⟩
  unfold vOr at hq
  cases e : fa ρ with
  | ok o =>
    rw [e] at hq
    simp only [Rz.bind_ok] at hq
    intro v G' H' T x r _
    split at hq
    · exact ⟨true, r.bool, iteT (hq _ G' H' [] x (.fz (.bl true)) fun _ => ⟨.nil, fun _ h => absurd h (by simp)⟩)⟩
    · exact ⟨false, r.bool, iteF ⟨ρ, G', S, m.up x, eO_up hq x⟩⟩
    · exact hq.elim
  | rs c => rw [e] at hq; exact hq
  | st => rw [e] at hq; exact hq
theorem po_one {op : PySem.BoolOp} (h : PQ X W p a fa) : PQ X W p (.BoolOp op [a] pos) fa := pe_one h
theorem po_not (ha : PQ X W p a fa) : PQ X W false (.UnaryOp .Not a pos) (vNot fa) := PE.wk (pe_not ha) fun σ H Q ⟨ρ, G, S, m, hq⟩ => by
  refine ⟨ρ, G, S, m, ?_⟩
  unfold vNot at hq
  cases e : fa ρ with
  | ok o =>
    rw [e] at hq
    simp only [Rz.bind_ok] at hq
    intro v G' H' T x r _
    split at hq
    · next k => exact ⟨_, r.bool, hq _ G' H' [] x (.fz (.bl _)) fun _ => ⟨.nil, fun _ h => absurd h (by simp)⟩⟩
    · exact hq.elim
  | rs c => rw [e] at hq; exact hq
  | st => rw [e] at hq; exact hq
theorem po_if (hc : PB X W c bc) (ha : PQ X W p a fa) (hb : PQ X W p b fb) : PQ X W p (.IfExp c a b pos) (vIf bc fa fb) := PE.wk (pe_ifExp hc ha hb) fun σ H Q ⟨ρ, G, S, m, hq⟩ => by
  refine ⟨ρ, G, S, m, ?_⟩
  unfold vIf at hq
  cases e : bc ρ with
  | ok k =>
    rw [e] at hq
    intro G' H' x
    cases k with
    | true => exact iteT ⟨ρ, G', S, m.up x, eO_up hq x⟩
    | false => exact iteF ⟨ρ, G', S, m.up x, eO_up hq x⟩
  | rs c => rw [e] at hq; exact hq
  | st => rw [e] at hq; exact hq
def oNeg : O → Rz O
  | .fz (.int i) => .ok (.fz (.int (-i)))
  | _ => .st
theorem po_neg (ha : PQ X W p a fa) : PQ X W false (.UnaryOp .USub a pos) (fun ρ => (fa ρ).bind oNeg) := PE.wk (pe_un un_neg ha) fun σ H Q ⟨ρ, G, S, m, hq⟩ => by
  refine ⟨ρ, G, S, m, ?_⟩
  try dsimp only at hq
  cases e : fa ρ with
  | ok o =>
    rw [e] at hq
    simp only [Rz.bind_ok] at hq
    intro v G' H' T x r _
    unfold oNeg at hq
    split at hq
    · exact ⟨_, r.int, hq _ G' H' [] x (.fz (.int _)) fun _ => ⟨.nil, fun _ h => absurd h (by simp)⟩⟩
    · exact hq.elim
  | rs c => rw [e] at hq; exact hq
  | st => rw [e] at hq; exact hq
/-- is None -/
def isNon : O → Bool
  | .fz .none => true
  | _ => false
theorem Or.isNon {K : KF} {G H : Hp} {v : V} {o : O} {S : List Addr} (h : Or K G H v o S) : decide (v = .non) = isNon o := by
  cases h with
  | fz r => cases r <;> rfl
  | ol => rfl
  | ot => rfl
theorem po_isn {j : Nat} {pos' : Pos} (ha : PQ X W p a fa) : PQ X W false (.Compare a [.Is] [.Constant .none j pos'] pos) (fun ρ => (fa ρ).bind fun o => oB (isNon o)) :=
  PE.wk (pe_cmp (pc_isN ha)) fun σ H Q ⟨ρ, G, S, m, hq⟩ => by
  refine ⟨ρ, G, S, m, ?_⟩
  try dsimp only at hq
  cases e : fa ρ with
  | ok o =>
    rw [e] at hq
    intro v G' H' T x r _
    rw [r.isNon]
    exact hq _ G' H' [] x (.fz (.bl _)) fun _ => ⟨.nil, fun _ h => absurd h (by simp)⟩
  | rs c => rw [e] at hq; exact hq
  | st => rw [e] at hq; exact hq
theorem po_isnn {j : Nat} {pos' : Pos} (ha : PQ X W p a fa) : PQ X W false (.Compare a [.IsNot] [.Constant .none j pos'] pos) (fun ρ => (fa ρ).bind fun o => oB (!isNon o)) :=
  PE.wk (pe_cmp (pc_notN ha)) fun σ H Q ⟨ρ, G, S, m, hq⟩ => by
  refine ⟨ρ, G, S, m, ?_⟩
  try dsimp only at hq
  cases e : fa ρ with
  | ok o =>
    rw [e] at hq
    intro v G' H' T x r _
    rw [r.isNon]
    exact hq _ G' H' [] x (.fz (.bl _)) fun _ => ⟨.nil, fun _ h => absurd h (by simp)⟩
  | rs c => rw [e] at hq; exact hq
  | st => rw [e] at hq; exact hq
theorem pb_isn {j : Nat} {pos' : Pos} (ha : PQ X W p a fa) : PB X W (.Compare a [.Is] [.Constant .none j pos'] pos) (fun ρ => (fa ρ).bind fun o => .ok (isNon o)) :=
  PT.wk (pt_cmp (pc_isN ha)) fun σ H Q ⟨ρ, G, S, m, hq⟩ => by
  refine ⟨ρ, G, S, m, ?_⟩
  try dsimp only at hq
  cases e : fa ρ with
  | ok o =>
    rw [e] at hq
    intro v G' H' T x r _
    rw [r.isNon]
    exact ⟨_, rfl, hq G' H' x⟩
  | rs c => rw [e] at hq; exact hq
  | st => rw [e] at hq; exact hq
theorem pb_isnn {j : Nat} {pos' : Pos} (ha : PQ X W p a fa) : PB X W (.Compare a [.IsNot] [.Constant .none j pos'] pos) (fun ρ => (fa ρ).bind fun o => .ok (!isNon o)) :=
  PT.wk (pt_cmp (pc_notN ha)) fun σ H Q ⟨ρ, G, S, m, hq⟩ => by
  refine ⟨ρ, G, S, m, ?_⟩
  try dsimp only at hq
  cases e : fa ρ with
  | ok o =>
    rw [e] at hq
    intro v G' H' T x r _
    rw [r.isNon]
    exact ⟨_, rfl, hq G' H' x⟩
  | rs c => rw [e] at hq; exact hq
  | st => rw [e] at hq; exact hq

/-! ### argument lists -/
section
variable {es : List Expr} {gs : Ro → Rz (List O)} {ds : Ro → Rz (List D)} {fd : Ro → Rz D}
def lCons {α : Type} (f : Ro → Rz α) (g : Ro → Rz (List α)) (ρ : Ro) : Rz (List α) := (f ρ).bind fun o => (g ρ).bind fun os => .ok (o :: os)
theorem pos_nil : POs X W [] (fun _ => .ok []) := PA.wk pa_nil fun σ H Q ⟨ρ, G, S, m, hq⟩ => hq [] G H (Xt.refl m.le) .nil
theorem pds_nil : PDs X W [] (fun _ => .ok []) := PA.wk pa_nil fun σ H Q ⟨ρ, G, S, m, hq⟩ => hq [] G H (Xt.refl m.le) .nil
theorem pns_nil : PNs X W [] (fun _ => .ok []) := PA.wk pa_nil fun σ H Q ⟨ρ, G, S, m, hq⟩ => hq [] G H [] (Xt.refl m.le) .nil .nil fun _ h => absurd h (by simp)
theorem pos_cons (ha : PQ X W p a fa) (hr : POs X W es gs) (hs : starEach (a :: es) X.env = (false, eval a X.env) :: starEach es X.env) : POs X W (a :: es) (lCons fa gs) := PA.wk (pa_cons ha hr hs) fun σ H Q ⟨ρ, G, S, m, hq⟩ => by
  refine ⟨ρ, G, S, m, ?_⟩
  unfold lCons at hq
  cases e : fa ρ with
  | ok o =>
    rw [e] at hq
    simp only [Rz.bind_ok] at hq
    intro v G' H' T x r _
    refine ⟨ρ, G', S, m.up x, ?_⟩
    cases e2 : gs ρ with
    | ok os => rw [e2] at hq; exact fun vs G2 H2 y rs => hq _ G2 H2 (x.trans y) (.cons (r.up y.g y.h) rs)
    | rs c => rw [e2] at hq; exact rsW.up hq x
    | st => rw [e2] at hq; exact hq
  | rs c => rw [e] at hq; exact hq
  | st => rw [e] at hq; exact hq
theorem pds_cons (ha : PD X W a fd) (hr : PDs X W es ds) (hs : starEach (a :: es) X.env = (false, eval a X.env) :: starEach es X.env) : PDs X W (a :: es) (lCons fd ds) := PA.wk (pa_cons ha hr hs) fun σ H Q ⟨ρ, G, S, m, hq⟩ => by
  refine ⟨ρ, G, S, m, ?_⟩
  unfold lCons at hq
  cases e : fd ρ with
  | ok o =>
    rw [e] at hq
    simp only [Rz.bind_ok] at hq
    intro v G' H' x r
    refine ⟨ρ, G', S, m.up x, ?_⟩
    cases e2 : ds ρ with
    | ok os => rw [e2] at hq; exact fun vs G2 H2 y rs => hq _ G2 H2 (x.trans y) (.cons (r.up y.g) rs)
    | rs c => rw [e2] at hq; exact rsW.up hq x
    | st => rw [e2] at hq; exact hq
  | rs c => rw [e] at hq; exact hq
  | st => rw [e] at hq; exact hq
/-- two new things apart -/
theorem apart {K : KF} {G1 H G' H' G2 H2 : Hp} {v : V} {o : O} {T T2 : List Addr} (r : Or K G' H' v o T) (n1 : T.Nodup) (n2 : T2.Nodup) (f2 : ∀ a ∈ T2, H' a = none) : (T ++ T2).Nodup := by
  refine List.nodup_append.mpr ⟨n1, n2, fun a ha b hb e => ?_⟩
  subst e
  obtain ⟨x, hx⟩ := Or.mem _ _ _ r a ha
  rw [f2 a hb] at hx
  cases hx
theorem pns_cons (ha : PQ X W false a fa) (hr : PNs X W es gs) (hs : starEach (a :: es) X.env = (false, eval a X.env) :: starEach es X.env) : PNs X W (a :: es) (lCons fa gs) := PA.wk (pa_cons ha hr hs) fun σ H Q ⟨ρ, G, S, m, hq⟩ => by
  refine ⟨ρ, G, S, m, ?_⟩
  unfold lCons at hq
  cases e : fa ρ with
  | ok o =>
    rw [e] at hq
    simp only [Rz.bind_ok] at hq
    intro v G' H' T x r fr
    obtain ⟨nd, fr⟩ := fr rfl
    refine ⟨ρ, G', S, m.up x, ?_⟩
    cases e2 : gs ρ with
    | ok os =>
      rw [e2] at hq
      intro vs G2 H2 T2 y rs nd2 fr2
      refine hq _ G2 H2 (T ++ T2) (x.trans y) (.cons (r.up y.g y.h) rs) (apart (G1 := G) (H := H) (G2 := G2) (H2 := H2) r nd nd2 fun a h => (fr2 a h).1) fun a h => ?_
      rcases List.mem_append.mp h with h | h
      · refine ⟨(fr a h).1, ?_⟩
        obtain ⟨z, hz⟩ := Or.mem _ _ _ r a h
        rw [y.n a (by rw [hz]; exact fun q => nomatch q)]
        exact (fr a h).2
      · exact ⟨back_none x.h (fr2 a h).1, (fr2 a h).2⟩
    | rs c => rw [e2] at hq; exact rsW.up hq x
    | st => rw [e2] at hq; exact hq
  | rs c => rw [e] at hq; exact hq
  | st => rw [e] at hq; exact hq

/-! ### displays -/
def oTup (os : List O) : O := match fzs os with
  | some ds => .fz (.tuple ds)
  | none => .ot os
theorem po_tup {k : Nat} (h : PNs X W es gs) (hl : ∀ ρ os, gs ρ = .ok os → os.length ≤ sizeLine) : PQ X W false (.Tuple es k pos) (fun ρ => (gs ρ).bind fun os => .ok (oTup os)) := PE.wk (pe_tup h) fun σ H Q ⟨ρ, G, S, m, hq⟩ => by
  refine ⟨ρ, G, S, m, ?_⟩
  try dsimp only at hq
  cases e : gs ρ with
  | ok os =>
    rw [e] at hq
    intro vs G' H' T x rs nd fr
    refine ⟨by rw [rs.length]; exact hl ρ os e, fun t ht => ?_⟩
    have hq2 : eO X.K X.mg W false σ G H Q (.ok (oTup os)) := hq
    clear hq
    cases hz : fzs os with
    | some ds =>
      have e2 : oTup os = .fz (.tuple ds) := by unfold oTup; rw [hz]
      rw [e2] at hq2
      have hz := fzs_some hz
      subst hz
      have r0 := orA_fz' rs
      exact hq2 (.ref t) (upd G' t (.tup vs)) _ [] (x.trans (Xt.new x.s ht)) (.fz (.tup (.of upd_same) (r0.up (le_upd (none_of x.s ht))))) fun _ => ⟨.nil, fun _ h => absurd h (by simp)⟩
    | none =>
      have e2 : oTup os = .ot os := by unfold oTup; rw [hz]
      rw [e2] at hq2
      refine hq2 (.ref t) G' _ (t :: T) (x.trans (Xt.own x.s ht)) (.ot upd_same (rs.up Le.rfl' (le_upd ht))) fun _ => ⟨List.nodup_cons.mpr ⟨fun z => ?_, nd⟩, fun a ha => ?_⟩
      · obtain ⟨w, hw⟩ := OrA.mem _ _ _ rs t z
        rw [ht] at hw
        cases hw
      · rcases List.mem_cons.mp ha with h | h
        · subst h; exact ⟨back_none x.h ht, none_of x.s ht⟩
        · exact fr a h
  | rs c => rw [e] at hq; exact hq
  | st => rw [e] at hq; exact hq
theorem po_lst (h : PNs X W es gs) (hl : ∀ ρ os, gs ρ = .ok os → os.length ≤ sizeLine) : PQ X W false (.List es pos) (fun ρ => (gs ρ).bind fun os => .ok (.ol os)) := PE.wk (pe_lst h) fun σ H Q ⟨ρ, G, S, m, hq⟩ => by
  refine ⟨ρ, G, S, m, ?_⟩
  try dsimp only at hq
  cases e : gs ρ with
  | ok os =>
    rw [e] at hq
    intro vs G' H' T x rs nd fr
    refine ⟨by rw [rs.length]; exact hl ρ os e, fun t ht => ?_⟩
    refine hq (.ref t) G' _ (t :: T) (x.trans (Xt.own x.s ht)) (.ol upd_same (rs.up Le.rfl' (le_upd ht))) fun _ => ⟨List.nodup_cons.mpr ⟨fun z => ?_, nd⟩, fun a ha => ?_⟩
    · obtain ⟨w, hw⟩ := OrA.mem _ _ _ rs t z
      rw [ht] at hw
      cases hw
    · rcases List.mem_cons.mp ha with h | h
      · subst h; exact ⟨back_none x.h ht, none_of x.s ht⟩
      · exact fr a h
  | rs c => rw [e] at hq; exact hq
  | st => rw [e] at hq; exact hq
end
end
end Mw
/-! Mw9: subscripts, slices, calls, methods, isinstance. -/
namespace Mw
open PySem PySem.Spec PyProof.Rows L2

/-! ### subscripts -/
def oIx : O → O → Rz O
  | .fz (.list ds), .fz (.int i) => match atI ds i with | some d => .ok (.fz d) | none => .st
  | .fz (.tuple ds), .fz (.int i) => match atI ds i with | some d => .ok (.fz d) | none => .st
  | .fz (.str z), .fz (.int i) => match atI z.cps.toList i with | some c => if z.length ≤ sizeLine then .ok (.fz (.str ⟨#[c]⟩)) else .st | none => .st
  | .ol os, .fz (.int i) => match atI os i with | some o => .ok o | none => .st
  | .ot os, .fz (.int i) => match atI os i with | some o => .ok o | none => .st
  | _, _ => .st
def rIxO (K : KF) : R2 := fun x y H Q => ∃ G a b S T o, Le G H ∧ Or K G H x a S ∧ Or K G H y b T ∧ oIx a b = .ok o ∧ ∀ v U, Or K G H v o U → Q v H
theorem atI_len {α β : Type} {xs : List α} {ys : List β} {i : Int} {y : β} (h : xs.length = ys.length) (e : atI ys i = some y) : ∃ j : Nat, ys[j]? = some y ∧ ∀ z, xs[j]? = some z → atI xs i = some z := by
  unfold atI at e ⊢
  obtain ⟨j, h1, h2⟩ := Option.bind_eq_some_iff.mp e
  refine ⟨j, h2, fun z hz => ?_⟩
  rw [h, h1]
  exact hz
theorem RpA.atI {K : KF} {G : Hp} {vs : List V} {ds : List D} {i : Int} {d : D} (r : RpA K G vs ds) (e : atI ds i = some d) : ∃ v, L2.atI vs i = some v ∧ Rp K G v d := by
  obtain ⟨j, h1, h2⟩ := atI_len r.length e
  obtain ⟨v, h3, h4⟩ := r.get h1
  exact ⟨v, h2 v h3, h4⟩
theorem OrA.get {K : KF} {G H : Hp} : ∀ {vs : List V} {os : List O} {S : List Addr} {i : Nat} {o : O}, OrA K G H vs os S → os[i]? = some o → ∃ v T, vs[i]? = some v ∧ Or K G H v o T ∧ ∀ a ∈ T, a ∈ S
  | _, _, _, _, _, .nil, e => by simp at e
  | _, _, _, 0, _, .cons r _, e => by simp at e; subst e; exact ⟨_, _, rfl, r, fun a ha => List.mem_append_left _ ha⟩
  | _, _, _, i + 1, o, .cons _ t, e => by
    obtain ⟨u, T, h1, h2, h3⟩ := OrA.get (i := i) (o := o) t (by simpa using e)
    exact ⟨u, T, by simpa using h1, h2, fun a ha => List.mem_append_right _ (h3 a ha)⟩
section
variable {X : Cx}
theorem rl_ix : IxR X (rIxO X.K) := by
  intro value slice pins s σ H x y v u Q I rx ry h hs
  obtain ⟨G, a, b, S, T, o, e, ha, hb, hf, q⟩ := h
  unfold oIx at hf
  split at hf
  · split at hf
    · next d hd =>
      cases hf
      cases ha with
      | fz r =>
        cases r with
        | lst k1 k2 =>
          obtain ⟨w, h1, h2⟩ := k2.atI hd
          exact ix_list value slice pins s σ H _ _ v u Q I rx ry ⟨_, _, _, w, rfl, hb.int, sqL_le e k1, h1, q w [] (.fz h2)⟩ hs
    · cases hf
  · split at hf
    · next d hd =>
      cases hf
      cases ha with
      | fz r =>
        cases r with
        | tup k1 k2 =>
          obtain ⟨w, h1, h2⟩ := k2.atI hd
          exact ix_tup value slice pins s σ H _ _ v u Q I rx ry ⟨_, _, _, w, rfl, hb.int, sqT_le e k1, h1, q w [] (.fz h2)⟩ hs
    · cases hf
  · split at hf
    · next c hc =>
      split at hf
      · cases hf
        exact ix_str value slice pins s σ H _ _ v u Q I rx ry ⟨_, _, c, ha.str, hb.int, by assumption, hc, q _ [] (.fz (.str _))⟩ hs
      · cases hf
    · cases hf
  · split at hf
    · next d hd =>
      cases hf
      cases ha with
      | ol k1 k2 =>
        obtain ⟨j, h1, h2⟩ := atI_len k2.length hd
        obtain ⟨w, U, h3, h4, _⟩ := k2.get h1
        exact ix_list value slice pins s σ H _ _ v u Q I rx ry ⟨_, _, _, w, rfl, hb.int, .of k1, h2 w h3, q w U h4⟩ hs
    · cases hf
  · split at hf
    · next d hd =>
      cases hf
      cases ha with
      | ot k1 k2 =>
        obtain ⟨j, h1, h2⟩ := atI_len k2.length hd
        obtain ⟨w, U, h3, h4, _⟩ := k2.get h1
        exact ix_tup value slice pins s σ H _ _ v u Q I rx ry ⟨_, _, _, w, rfl, hb.int, .of k1, h2 w h3, q w U h4⟩ hs
    · cases hf
  · cases hf
variable {W : WX} {a b : Expr} {es : List Expr} {fa fb : Ro → Rz O} {gs : Ro → Rz (List O)} {ds : Ro → Rz (List D)} {p q : Bool} {pos : Pos}
theorem nr_ix : NoRs oIx := fun a b c h => by
  unfold oIx at h
  repeat' split at h
  all_goals cases h
theorem po_ix (ha : PQ X W p a fa) (hb : PQ X W q b fb) (hs : PlainIx b) : PQ X W true (.Subscript a b pos) (fun ρ => (fa ρ).bind fun x => (fb ρ).bind fun y => oIx x y) := PE.wk (pe_ix rl_ix ha hb hs) fun σ H Q ⟨ρ, G, S, m, hq⟩ => by
  refine ⟨ρ, G, S, m, ?_⟩
  try dsimp only at hq
  cases e : fa ρ with
  | ok o1 =>
    rw [e] at hq
    intro v1 G1 H1 T1 x1 r1 _
    refine ⟨ρ, G1, S, m.up x1, ?_⟩
    have hq : eO X.K X.mg W true σ G H Q ((fb ρ).bind fun y => oIx o1 y) := hq
    cases e2 : fb ρ with
    | ok o2 =>
      rw [e2] at hq
      intro v2 G2 H2 T2 x2 r2' _
      have hq : eO X.K X.mg W true σ G H Q (oIx o1 o2) := hq
      cases e3 : oIx o1 o2 with
      | ok o =>
        rw [e3] at hq
        exact ⟨G2, o1, o2, T1, T2, o, x2.s, r1.up x2.g x2.h, r2', e3, fun v U r => hq v G2 H2 U (x1.trans x2) r fun z => by cases z⟩
      | rs c => exact (nr_ix _ _ _ e3).elim
      | st => rw [e3] at hq; exact hq.elim
    | rs c => rw [e2] at hq; exact rsW.up hq x1
    | st => rw [e2] at hq; exact hq
  | rs c => rw [e] at hq; exact hq
  | st => rw [e] at hq; exact hq

/-! ### slices -/
def cutD (xs : List D) (lo hi : Option Int) : List D := (xs.drop (HT.sIx xs.length 0 lo)).take (HT.sIx xs.length xs.length hi - HT.sIx xs.length 0 lo)
theorem RpA.cut {K : KF} {G : Hp} {vs : List V} {ds : List D} (r : RpA K G vs ds) (lo hi : Option Int) : RpA K G (cutV vs lo hi) (cutD ds lo hi) := by
  unfold cutV cutD
  rw [r.length]
  exact (r.drop _).take _
def oSl (a : O) (lo hi : Option Int) : Rz O := match a with
  | .fz (.str z) => if z.length ≤ sizeLine then .ok (.fz (.str (cutS z lo hi))) else .st
  | .fz (.tuple ds) => .ok (.fz (.tuple (cutD ds lo hi)))
  | a => match a.lst? with
    | some ds => .ok (.ol ((cutD ds lo hi).map .fz))
    | none => .st
def rSlO (K : KF) : V → Option Int → Option Int → Hp → VK → Prop := fun x lo hi H Q => ∃ G a S o, Le G H ∧ Or K G H x a S ∧ oSl a lo hi = .ok o ∧ FP K G H Q o
theorem cut_whole {ds : List D} {lo hi : Option Int} (h : HT.sIx ds.length 0 lo = 0 ∧ HT.sIx ds.length ds.length hi = ds.length) : cutD ds lo hi = ds := by
  unfold cutD
  rw [h.1, h.2]
  simp
theorem rl_sl : SlR X (rSlO X.K) := by
  intro pins s σ H x v vl vu lo hi sl Q I rx hs pl pu h
  obtain ⟨G, a, S, o, e, ha, hf, q⟩ := h
  unfold oSl at hf
  split at hf
  · split at hf
    · cases hf
      exact sl_str pins s σ H x v vl vu lo hi sl Q I rx hs pl pu ⟨_, ha.str, by assumption, q.sc e (.str _)⟩
    · cases hf
  · next ds =>
    cases hf
    cases ha with
    | fz r =>
      have r0 := r
      cases r with
      | tup k1 k2 =>
        refine sl_tupA pins s σ H _ v vl vu lo hi sl Q I rx hs pl pu ⟨_, _, rfl, sqT_le e k1, fun w => ?_, fun _ => q.tup e (k2.cut lo hi)⟩
        rw [k2.length] at w
        rw [cut_whole w] at q
        exact q.sc e r0
  · split at hf
    · next ds hd =>
      cases hf
      obtain ⟨l, vs, rfl, k1, k2⟩ := ha.isLst e hd
      exact sl_list pins s σ H _ v vl vu lo hi sl Q I rx hs pl pu ⟨l, vs, rfl, k1, q.lstD e (k2.cut lo hi)⟩
    · cases hf
/-- a part of a slice -/
def tPo (K : KF) (mg : Mg) (W : WX) (f : Ro → Rz (Option Int)) : TO := fun σ H Q => ∃ ρ G S, Sm K G H ρ σ S ∧ match f ρ with
  | .ok i => ∀ G' H', Xt G H G' H' → Q i H'
  | .rs c => rsW mg W σ G H c
  | .st => False
abbrev PP (X : Cx) (W : WX) (e : Option Expr) (f : Ro → Rz (Option Int)) : Prop := L2.PO X e (tPo X.K X.mg W f)
theorem PO.wk {X : Cx} {e : Option Expr} {t t' : TO} (h : L2.PO X e t) (k : ∀ σ H Q, t' σ H Q → t σ H Q) : L2.PO X e t' := ⟨fun pins s σ H Q I q => h.run pins s σ H Q I (k σ H Q q)⟩
theorem pp_none : PP X W none (fun _ => .ok none) := PO.wk po_none fun σ H Q ⟨ρ, G, S, m, hq⟩ => hq G H (Xt.refl m.le)
def oPart : O → Rz (Option Int)
  | .fz (.int i) => .ok (some i)
  | _ => .st
theorem pp_some (h : PQ X W p a fa) : PP X W (some a) (fun ρ => (fa ρ).bind oPart) := PO.wk (po_some h) fun σ H Q ⟨ρ, G, S, m, hq⟩ => by
  refine ⟨ρ, G, S, m, ?_⟩
  try dsimp only at hq
  cases e : fa ρ with
  | ok o =>
    simp only [e, Rz.bind_ok] at hq
    intro v G' H' T x r _
    cases o with
    | fz d =>
      cases d with
      | int i =>
        exact ⟨i, r.int, hq G' H' x⟩
      | _ => exact hq.elim
    | ol _ => exact hq.elim
    | ot _ => exact hq.elim
  | rs c => simp only [e, Rz.bind_rs] at hq; exact hq
  | st => simp only [e, Rz.bind_st] at hq
theorem po_sl {lo hi : Option Expr} {fl fh : Ro → Rz (Option Int)} {p2 : Pos} (ha : PQ X W p a fa) (hl : PP X W lo fl) (hh : PP X W hi fh) :
    PQ X W false (.Subscript a (.Slice lo hi none p2) pos) (fun ρ => (fa ρ).bind fun x => (fl ρ).bind fun l => (fh ρ).bind fun u => oSl x l u) := PE.wk (pe_slice rl_sl ha hl hh) fun σ H Q ⟨ρ, G, S, m, hq⟩ => by
  refine ⟨ρ, G, S, m, ?_⟩
  try dsimp only at hq
  cases e : fa ρ with
  | ok o1 =>
    simp only [e, Rz.bind_ok] at hq
    intro v1 G1 H1 T1 x1 r1 _
    refine ⟨ρ, G1, S, m.up x1, ?_⟩
    cases e2 : fl ρ with
    | ok l =>
      simp only [e2, Rz.bind_ok] at hq
      intro G2 H2 x2
      refine ⟨ρ, G2, S, (m.up x1).up x2, ?_⟩
      cases e3 : fh ρ with
      | ok u =>
        simp only [e3, Rz.bind_ok] at hq
        intro G3 H3 x3
        cases e4 : oSl o1 l u with
        | ok o =>
          rw [e4] at hq
          exact ⟨G3, o1, T1, o, x3.s, (r1.up x2.g x2.h).up x3.g x3.h, e4, fp_of ((x1.trans x2).trans x3) hq⟩
        | rs c =>
          unfold oSl at e4
          repeat' split at e4
          all_goals cases e4
        | st => rw [e4] at hq; exact hq.elim
      | rs c => simp only [e3, Rz.bind_rs] at hq; exact rsW.up hq (x1.trans x2)
      | st => simp only [e3, Rz.bind_st] at hq; exact hq.elim
    | rs c => simp only [e2, Rz.bind_rs] at hq; exact rsW.up hq x1
    | st => simp only [e2, Rz.bind_st] at hq; exact hq.elim
  | rs c => simp only [e, Rz.bind_rs] at hq; exact hq
  | st => simp only [e, Rz.bind_st] at hq; exact hq.elim

/-! ### built-in functions by their names -/
theorem rn_t {K : KF} {mg : Mg} {g : List O → Rz O} (hg : ∀ os c, g os ≠ .rs c) {σ : L2.St} {H : Hp} {Q : VK} (h : tO K mg W false (fun ρ => (gs ρ).bind g) σ H Q) : tCB (rN K g) (tOs K mg W gs) σ H Q := by
  obtain ⟨ρ, G, S, m, hq⟩ := h
  refine ⟨ρ, G, S, m, ?_⟩
  try dsimp only at hq
  cases e : gs ρ with
  | ok os =>
    simp only [e, Rz.bind_ok] at hq
    intro vs G' H' x rs
    cases e2 : g os with
    | ok o => rw [e2] at hq; exact ⟨G', os, o, x.s, rs, e2, fp_of x hq⟩
    | rs c => exact (hg _ _ e2).elim
    | st => rw [e2] at hq; exact hq.elim
  | rs c => simp only [e, Rz.bind_rs] at hq; exact hq
  | st => simp only [e, Rz.bind_st] at hq; exact hq.elim
theorem po_blt {g : List O → Rz O} {id : String} {x : Str} {pn : Pos} (hg : ∀ os c, g os ≠ .rs c) (hc : CallR X (.builtin id) (rN X.K g)) (hgl : Gl X x) (hm : X.mg x = none) (hv : bootBuiltins x = some (.builtin id)) (ha : POs X W (a :: es) gs)
    (hn : x ≠ "__name__") (hdb : (x == ("__debug__" : Str)) = false) (he : starEach (a :: es) X.env = (false, eval a X.env) :: starEach es X.env) (hpl : (backTo pos (starEach es X.env)).any (·.1) = false) :
    PQ X W false (.Call (.Name x pn) (a :: es) [] pos) (fun ρ => (gs ρ).bind g) := PE.wk (pe_callB hc hgl hm hv ha hn hdb he hpl) fun _ _ _ h => rn_t hg h
theorem po_blty {g : List O → Rz O} {T : String} {x : Str} {pn : Pos} (hg : ∀ os c, g os ≠ .rs c) (hc : CallR X (.type T) (rN X.K g)) (hgl : Gl X x) (hm : X.mg x = none) (hv : bootBuiltins x = some (.type T)) (ha : POs X W (a :: es) gs)
    (hn : x ≠ "__name__") (hdb : (x == ("__debug__" : Str)) = false) (he : starEach (a :: es) X.env = (false, eval a X.env) :: starEach es X.env) (hpl : (backTo pos (starEach es X.env)).any (·.1) = false) :
    PQ X W false (.Call (.Name x pn) (a :: es) [] pos) (fun ρ => (gs ρ).bind g) := PE.wk (pe_callTy hc hgl hm hv ha hn hdb he hpl) fun _ _ _ h => rn_t hg h

end
end Mw
/-! Mw10: methods of texts, isinstance, what is walked, comprehensions. -/
namespace Mw
open PySem PySem.Spec PyProof.Rows L2

section
variable {X : Cx} {W : WX} {a b : Expr} {es : List Expr} {fa fb : Ro → Rz O} {gs : Ro → Rz (List O)} {fd : Ro → Rz D} {p q : Bool} {pos apos : Pos}
/-! ### methods of texts -/
def vM1 (g : Str → O → Rz O) (f h : Ro → Rz O) (ρ : Ro) : Rz O := (f ρ).bind fun x => match x with
  | .fz (.str z) => (h ρ).bind (g z)
  | _ => .st
def oJoin (z : Str) (b : O) : Rz O := match b.seq?.bind strs? with
  | some ys => if (ys.map (·.length)).sum + ys.length * z.length ≤ 16777216 then .ok (.fz (.str (Txt.join z ys))) else .st
  | none => .st
def oSplit (z : Str) : O → Rz O
  | .fz (.str b) => if (b.length == 0) = false ∧ z.length + 2 ≤ sizeLine then .ok (.ol ((Txt.split z b).map fun y => .fz (.str y))) else .st
  | _ => .st
def oPartn (z : Str) : O → Rz O
  | .fz (.str b) => if (b.length == 0) = false ∧ z.length ≤ sizeLine then .ok (.fz (.tuple [.str (Txt.partition z b).1, .str (Txt.partition z b).2.1, .str (Txt.partition z b).2.2])) else .st
  | _ => .st
def rM1 (K : KF) (g : Str → O → Rz O) : V → List V → Hp → VK → Prop := fun x xs H Q => ∃ G z b T o y, Le G H ∧ x = .str z ∧ xs = [y] ∧ Or K G H y b T ∧ g z b = .ok o ∧ FP K G H Q o
theorem rl_join : MtR X "str.join" (rM1 X.K oJoin) := by
  intro pins s σ H x xs v us Q I rx rs h
  obtain ⟨G, z, b, T, o, y, e, rfl, rfl, hb, hf, q⟩ := h
  unfold oJoin at hf
  split at hf
  · next ys hy =>
    split at hf
    · cases hf
      obtain ⟨ds, h3, h4⟩ := Option.bind_eq_some_iff.mp hy
      obtain ⟨l, vs, rfl, k, r⟩ := hb.isSeq e h3
      rw [strs?_some h4] at r
      have ev := rpA_strs r
      subst ev
      exact mt_join pins s σ H _ _ v us Q I rx rs ⟨z, l, ys, rfl, rfl, k, by assumption, q.sc e (.str _)⟩
    · cases hf
  · cases hf
theorem rl_split : MtR X "str.split" (rM1 X.K oSplit) := by
  intro pins s σ H x xs v us Q I rx rs h
  obtain ⟨G, z, b, T, o, y, e, rfl, rfl, hb, hf, q⟩ := h
  unfold oSplit at hf
  split at hf
  · split at hf
    · next hc =>
      cases hf
      refine mt_split pins s σ H _ _ v us Q I rx rs ⟨z, _, rfl, by rw [hb.str], hc.1, hc.2, ?_⟩
      rw [show (fun y => O.fz (PyData.str y)) = O.fz ∘ PyData.str from rfl, ← List.map_map] at q
      exact q.lstD e RpA.strs
    · cases hf
  · cases hf
theorem rl_partn : MtR X "str.partition" (rM1 X.K oPartn) := by
  intro pins s σ H x xs v us Q I rx rs h
  obtain ⟨G, z, b, T, o, y, e, rfl, rfl, hb, hf, q⟩ := h
  unfold oPartn at hf
  split at hf
  · split at hf
    · next hc =>
      cases hf
      exact mt_partition pins s σ H _ _ v us Q I rx rs ⟨z, _, rfl, by rw [hb.str], hc.1, hc.2, q.tup e (.cons (.str _) (.cons (.str _) (.cons (.str _) .nil)))⟩
    · cases hf
  · cases hf
theorem po_m1 {id : String} {name : Str} {g : Str → O → Rz O} (hg : ∀ z o c, g z o ≠ .rs c) (slot : Slot "str" name id) (ty : typeOf (.builtin id) = pure (.type "method_descriptor")) (rule : MtR X id (rM1 X.K g)) (ha : PQ X W p a fa) (hb : PQ X W q b fb)
    (hs : starEach [b] X.env = [(false, eval b X.env)]) (hbase : attributeBase a name X.env (eval a X.env) = eval a X.env) (hline : (apos.endLine == pos.line) = true) :
    PQ X W false (.Call (.Attribute a name apos) [b] [] pos) (vM1 g fa fb) := PE.wk (pe_m1 slot ty rule ha hb hs hbase hline) fun σ H Q ⟨ρ, G, S, m, hq⟩ => by
  refine ⟨ρ, G, S, m, ?_⟩
  unfold vM1 at hq
  cases e : fa ρ with
  | ok o1 =>
    simp only [e, Rz.bind_ok] at hq
    intro v1 G1 H1 T1 x1 r1 _
    split at hq
    · next z =>
      refine ⟨⟨z, r1.str⟩, ρ, G1, S, m.up x1, ?_⟩
      cases e2 : fb ρ with
      | ok o2 =>
        simp only [e2, Rz.bind_ok] at hq
        intro v2 G2 H2 T2 x2 r2' _
        cases e3 : g z o2 with
        | ok o => rw [e3] at hq; exact ⟨G2, z, o2, T2, o, v2, x2.s, r1.str, rfl, r2', e3, fp_of (x1.trans x2) hq⟩
        | rs c => exact (hg _ _ _ e3).elim
        | st => rw [e3] at hq; exact hq.elim
      | rs c => simp only [e2, Rz.bind_rs] at hq; exact rsW.up hq x1
      | st => simp only [e2, Rz.bind_st] at hq; exact hq.elim
    · exact hq.elim
  | rs c => simp only [e, Rz.bind_rs] at hq; exact hq
  | st => simp only [e, Rz.bind_st] at hq; exact hq.elim

/-! ### isinstance -/
def tyD : D → String
  | .none => "NoneType"
  | .bool _ => "bool"
  | .int _ => "int"
  | .str _ => "str"
  | .list _ => "list"
  | .tuple _ => "tuple"
  | .dict _ => "dict"
def isD (d : D) (T : String) : Bool := match d with
  | .none => T == "NoneType"
  | .bool _ => T == "bool" || T == "int"
  | .int _ => T == "int"
  | .str _ => T == "str"
  | .list _ => T == "list"
  | .tuple _ => T == "tuple"
  | .dict _ => T == "dict"
theorem kit_all {d : D} {T : String} (h : T ∈ ["str", "int", "bool", "list", "tuple", "dict"]) : kitB (tyD d) T = some (isD d T) := by
  simp only [List.mem_cons, List.not_mem_nil, or_false] at h
  rcases h with rfl | rfl | rfl | rfl | rfl | rfl <;> cases d <;> (first | rfl | (simp only [tyD, isD]; decide +kernel))
theorem tyX {K : KF} {H : Hp} {v : V} {d : D} (r : Rp K H v d) : TyX K H v (.type (tyD d)) := by
  cases r with
  | non => exact .base .non
  | bl b => exact .base (.bl b)
  | int i => exact .base (.int i)
  | str x => exact .base (.str x)
  | lst h _ =>
    rcases h with (h | ⟨o, h⟩) | ⟨o, its, n, h1, h2, _⟩
    · exact .base (.lst h)
    · exact .base (.frz h)
    · exact .kList h1 h2
  | tup h _ =>
    rcases h with (h | ⟨o, h⟩) | ⟨o, its, n, h1, h2, _⟩
    · exact .base (.tup h)
    · exact .fTuple h
    · exact .kTuple h1 h2
  | dic h _ => exact .base (.dK h)
theorem po_isi {T : String} {x : Str} {pn pt : Pos} (hT : T ∈ ["str", "int", "bool", "list", "tuple", "dict"]) (ha : PQ X W p a fa) (hgl : Gl X "isinstance") (hm : X.mg "isinstance" = none) (hgt : Gl X x) (hmt : X.mg x = none) (hv : bootBuiltins x = some (.type T))
    (hn : x ≠ "__name__") (hdb : (x == ("__debug__" : Str)) = false) (he : starEach [a, .Name x pt] X.env = (false, eval a X.env) :: starEach [.Name x pt] X.env) (hpl : (backTo pos (starEach [.Name x pt] X.env)).any (·.1) = false) :
    PQ X W false (.Call (.Name "isinstance" pn) [a, .Name x pt] [] pos) (fun ρ => (fa ρ).bind fun o => oB (isD o.d T)) :=
  PE.wk (pe_callB call_isi hgl hm boot_isinstance (pa_cons ha (pa_cons (pe_bltn (v := .ty T) hgt hmt hv rfl hn hdb) pa_nil) he) (by decide) (by decide) he hpl) fun σ H Q ⟨ρ, G, S, m, hq⟩ => by
  refine ⟨ρ, G, S, m, ?_⟩
  try dsimp only at hq
  cases e : fa ρ with
  | ok o =>
    rw [e] at hq
    intro v G' H' T' x r _
    exact ⟨v, .ty T, .type (tyD o.d), .type T, isD o.d T, rfl, .ty T, tyX (Or.rp x.s _ _ _ r), kit_ty (kit_all hT), hq _ G' H' [] x (.fz (.bl _)) fun _ => ⟨.nil, fun _ h => absurd h (by simp)⟩⟩
  | rs c => rw [e] at hq; exact hq
  | st => rw [e] at hq; exact hq

/-! ### what is walked -/
/-- own: it stands as long as all that is tracked stands; else as long as what is known stands -/
def eI (K : KF) (mg : Mg) (W : WX) (own : Bool) (σ : L2.St) (G H : Hp) (R : It → Hp → Prop) : Rz (List D) → Prop
  | .ok ds => ∀ J G' H' (Gd : Hp → Prop) (Y : Nat → Hp → V → Hp → Prop), Xt G H G' H' → Walk J ds.length Gd Y → (∀ H2, Le (match own with | true => H' | false => G') H2 → Gd H2) →
      (∀ i H2 x H3 G2, i < ds.length → Gd H2 → Y i H2 x H3 → Le G' G2 → Le G2 H2 → ∃ G3 d, Xt G2 H2 G3 H3 ∧ ds[i]? = some d ∧ Rp K G3 x d) → R J H'
  | .rs c => rsW mg W σ G H c
  | .st => False
def tI (K : KF) (mg : Mg) (W : WX) (own : Bool) (f : Ro → Rz (List D)) : TI := fun σ H R => ∃ ρ G S, Sm K G H ρ σ S ∧ eI K mg W own σ G H R (f ρ)
abbrev PIt (X : Cx) (W : WX) (own : Bool) (tg e : Expr) (f : Ro → Rz (List D)) : Prop := PI X tg e (tI X.K X.mg W own f)
theorem PI.wk {X : Cx} {tg e : Expr} {w w' : TI} (h : PI X tg e w) (k : ∀ σ H R, w' σ H R → w σ H R) : PI X tg e w' := ⟨fun pins s σ H R I q => h.run pins s σ H R I (k σ H R q)⟩
theorem pi_or {X : Cx} {tg e : Expr} {w w' : TI} (h : PI X tg e w) (h' : PI X tg e w') : PI X tg e (fun σ H R => w σ H R ∨ w' σ H R) := ⟨fun pins s σ H R I q => by
  rcases q with q | q
  · exact h.run pins s σ H R I q
  · exact h'.run pins s σ H R I q⟩
def signsD (z : Str) : List D := z.cps.toList.map fun c => .str ⟨#[c]⟩
def oItems (o : O) : Rz (List D) := match o with
  | .fz (.str z) => .ok (signsD z)
  | .fz (.tuple ds) => .ok ds
  | o => match o.lst? with
    | some ds => .ok ds
    | none => .st
theorem signs_len (z : Str) : (signsD z).length = z.cps.size := by simp [signsD]
/-- from known data -/
theorem pit_known {tg : Expr} (ha : PD X W a fd) : PIt X W false tg a (fun ρ => (fd ρ).bind fun d => oItems (.fz d)) :=
  PI.wk (pi_or (pi_list ha) (pi_or (pi_tup ha) (pi_str ha))) fun σ H R ⟨ρ, G, S, m, hq⟩ => by
  try dsimp only at hq
  cases e : fd ρ with
  | ok d =>
    simp only [e, Rz.bind_ok] at hq
    cases d with
    | list ds =>
      refine .inl ⟨ρ, G, S, m, ?_⟩
      rw [e]
      intro v G' H' x r
      cases r with
      | lst k1 k2 =>
        refine ⟨_, rfl, ⟨_, sqL_le x.s k1⟩, hq (Itl X.K _) G' H' (fun H => SqL X.K H _ _) (YAt _) x (by rw [← k2.length]; exact walk_list) (fun H2 l => sqL_le l k1) fun i H2 y H3 G2 hi hg hy l1 l2 => ?_⟩
        obtain ⟨rfl, hv⟩ := hy
        obtain ⟨d, h1, h2⟩ := k2.getV hv
        exact ⟨G2, d, Xt.refl l2, h1, h2.up l1⟩
    | tuple ds =>
      refine .inr (.inl ⟨ρ, G, S, m, ?_⟩)
      rw [e]
      intro v G' H' x r
      cases r with
      | tup k1 k2 =>
        refine ⟨_, rfl, ⟨_, sqT_le x.s k1⟩, hq (Itt X.K _) G' H' (fun H => SqT X.K H _ _) (YAt _) x (by rw [← k2.length]; exact walk_tup) (fun H2 l => sqT_le l k1) fun i H2 y H3 G2 hi hg hy l1 l2 => ?_⟩
        obtain ⟨rfl, hv⟩ := hy
        obtain ⟨d, h1, h2⟩ := k2.getV hv
        exact ⟨G2, d, Xt.refl l2, h1, h2.up l1⟩
    | str z =>
      refine .inr (.inr ⟨ρ, G, S, m, ?_⟩)
      rw [e]
      intro v G' H' x r
      cases r
      refine ⟨z, rfl, hq (Its z) G' H' _ _ x (by rw [signs_len]; exact walk_str) (fun _ _ => trivial) fun i H2 y H3 G2 hi hg hy l1 l2 => ?_⟩
      obtain ⟨rfl, c, h1, rfl⟩ := hy
      exact ⟨G2, .str ⟨#[c]⟩, Xt.refl l2, by simp [signsD, h1], .str _⟩
    | _ => exact hq.elim
  | rs c => exact .inl ⟨ρ, G, S, m, by rw [e]; simp only [e, Rz.bind_rs] at hq; exact hq⟩
  | st => simp only [e, Rz.bind_st] at hq; exact hq.elim
/-- from what may be one's own -/
theorem pit_own {tg : Expr} (ha : PQ X W p a fa) : PIt X W true tg a (fun ρ => (fa ρ).bind oItems) :=
  PI.wk (pi_or (pi_list ha) (pi_or (pi_tup ha) (pi_str ha))) fun σ H R ⟨ρ, G, S, m, hq⟩ => by
  try dsimp only at hq
  cases e : fa ρ with
  | ok o =>
    simp only [e, Rz.bind_ok] at hq
    unfold oItems at hq
    split at hq
    · next z =>
      refine .inr (.inr ⟨ρ, G, S, m, ?_⟩)
      rw [e]
      intro v G' H' T x r _
      refine ⟨z, r.str, hq (Its z) G' H' _ _ x (by rw [signs_len]; exact walk_str) (fun _ _ => trivial) fun i H2 y H3 G2 hi hg hy l1 l2 => ?_⟩
      obtain ⟨rfl, c, h1, rfl⟩ := hy
      exact ⟨G2, .str ⟨#[c]⟩, Xt.refl l2, by simp [signsD, h1], .str _⟩
    · next ds =>
      refine .inr (.inl ⟨ρ, G, S, m, ?_⟩)
      rw [e]
      intro v G' H' T x r _
      cases r with
      | fz r =>
        cases r with
        | tup k1 k2 =>
          refine ⟨_, rfl, ⟨_, sqT_le x.s k1⟩, hq (Itt X.K _) G' H' (fun H => SqT X.K H _ _) (YAt _) x (by rw [← k2.length]; exact walk_tup) (fun H2 l => sqT_le (x.s.trans l) k1) fun i H2 y H3 G2 hi hg hy l1 l2 => ?_⟩
          obtain ⟨rfl, hv⟩ := hy
          obtain ⟨d, h1, h2⟩ := k2.getV hv
          exact ⟨G2, d, Xt.refl l2, h1, h2.up l1⟩
    · split at hq
      · next ds hd =>
        refine .inl ⟨ρ, G, S, m, ?_⟩
        rw [e]
        intro v G' H' T x r _
        obtain ⟨l, vs, rfl, k1, k2⟩ := r.isLst x.s hd
        refine ⟨_, rfl, ⟨_, k1⟩, hq (Itl X.K _) G' H' (fun H => SqL X.K H _ _) (YAt _) x (by rw [← k2.length]; exact walk_list) (fun H2 l => sqL_le l k1) fun i H2 y H3 G2 hi hg hy l1 l2 => ?_⟩
        obtain ⟨rfl, hv⟩ := hy
        obtain ⟨d, h1, h2⟩ := k2.getV hv
        exact ⟨G2, d, Xt.refl l2, h1, h2.up l1⟩
      · exact hq.elim
  | rs c => exact .inl ⟨ρ, G, S, m, by rw [e]; simp only [e, Rz.bind_rs] at hq; exact hq⟩
  | st => simp only [e, Rz.bind_st] at hq; exact hq.elim
/-- range -/
def in62 (j : Int) : Bool := decide (-(2 ^ 62) ≤ j ∧ j < 2 ^ 62)
def rngD (i : Int) (n : Nat) : List D := (List.range n).map fun k => .int (i + ((k : Nat) : Int))
def oRng : List O → Rz (List D)
  | [.fz (.int j)] => if in62 j = true then .ok (rngD 0 j.toNat) else .st
  | [.fz (.int i), .fz (.int j)] => if (in62 i && in62 j) = true then .ok (rngD i (j - i).toNat) else .st
  | _ => .st
theorem rng_len (i : Int) (n : Nat) : (rngD i n).length = n := by simp [rngD]
theorem rng_go {J : It} {lo : Int} {n : Nat} {own : Bool} {K : KF} {mg : Mg} {σ : L2.St} {G H G' H' : Hp} {R : It → Hp → Prop} (x : Xt G H G' H') (hq : eI K mg W own σ G H R (.ok (rngD lo n))) : R (Itr lo n) H' := by
  refine hq (Itr lo n) G' H' _ _ x (by rw [rng_len]; exact walk_range) (fun _ _ => trivial) fun i H2 y H3 G2 hi hg hy l1 l2 => ?_
  obtain ⟨rfl, rfl⟩ := hy
  rw [rng_len] at hi
  exact ⟨G2, .int (lo + i), Xt.refl l2, by simp [rngD, hi], .int _⟩
theorem pit_rng1 {tg : Expr} {own : Bool} {pn : Pos} (hgl : Gl X "range") (hm : X.mg "range" = none) (ha : POs X W [a] gs) (hs : starEach [a] X.env = [(false, eval a X.env)]) (h1 : ∀ ρ os, gs ρ = .ok os → os.length = 1) :
    PIt X W own tg (.Call (.Name "range" pn) [a] [] pos) (fun ρ => (gs ρ).bind oRng) := PI.wk (pi_range1 hgl hm ha hs) fun σ H R ⟨ρ, G, S, m, hq⟩ => by
  refine ⟨ρ, G, S, m, ?_⟩
  try dsimp only at hq
  cases e : gs ρ with
  | ok os =>
    simp only [e, Rz.bind_ok] at hq
    intro vs G' H' x rs
    unfold oRng at hq
    split at hq
    · split at hq
      · next hc =>
        obtain ⟨v, S', rfl, r1⟩ := orB1 rs
        have hb := of_decide_eq_true (show decide _ = true from hc)
        exact ⟨_, by rw [r1.int], hb.1, hb.2, rng_go (J := Itr 0 0) x hq⟩
      · exact hq.elim
    · have := h1 ρ _ e
      simp at this
    · exact hq.elim
  | rs c => simp only [e, Rz.bind_rs] at hq; exact hq
  | st => simp only [e, Rz.bind_st] at hq; exact hq.elim
theorem pit_rng2 {tg : Expr} {own : Bool} {pn : Pos} (hgl : Gl X "range") (hm : X.mg "range" = none) (ha : POs X W [a, b] gs) (hs : starEach [a, b] X.env = [(false, eval a X.env), (false, eval b X.env)]) (hs2 : starEach [b] X.env = [(false, eval b X.env)])
    (h1 : ∀ ρ os, gs ρ = .ok os → os.length = 2) : PIt X W own tg (.Call (.Name "range" pn) [a, b] [] pos) (fun ρ => (gs ρ).bind oRng) := PI.wk (pi_range2 hgl hm ha hs hs2) fun σ H R ⟨ρ, G, S, m, hq⟩ => by
  refine ⟨ρ, G, S, m, ?_⟩
  try dsimp only at hq
  cases e : gs ρ with
  | ok os =>
    simp only [e, Rz.bind_ok] at hq
    intro vs G' H' x rs
    unfold oRng at hq
    split at hq
    · have := h1 ρ _ e
      simp at this
    · split at hq
      · next hc =>
        obtain ⟨v, w, S', T', rfl, r1, r2'⟩ := orB2 rs
        simp only [Bool.and_eq_true] at hc
        have hb := of_decide_eq_true (show decide _ = true from hc.1)
        have hb2 := of_decide_eq_true (show decide _ = true from hc.2)
        exact ⟨_, _, by rw [r1.int, r2'.int], ⟨hb.1, hb.2, hb2.1, hb2.2⟩, rng_go (J := Itr 0 0) x hq⟩
      · exact hq.elim
    · exact hq.elim
  | rs c => simp only [e, Rz.bind_rs] at hq; exact hq
  | st => simp only [e, Rz.bind_st] at hq; exact hq.elim
end
end Mw
/-! Mw11: targets; comprehensions. -/
namespace Mw
open PySem PySem.Spec PyProof.Rows L2

/-- a name, or a pair of names -/
inductive Tg where
  | one (i : Nat) | two (i j : Nat)
def gT (K : KF) : Tg → TG
  | .one i => gName i
  | .two i j => gTup K 2 (gCons (gName i) (gCons (gName j) gNil))
def Tg.is : Tg → List Nat
  | .one i => [i]
  | .two i j => [i, j]
def setT (t : Tg) (ρ : Ro) (d : D) : Option Ro := match t with
  | .one i => if i < ρ.length then some (ρ.set i (some (.fz d))) else none
  | .two i j => match d with
    | .tuple [x, y] => if i < ρ.length ∧ j < ρ.length ∧ i ≠ j then some ((ρ.set i (some (.fz x))).set j (some (.fz y))) else none
    | _ => none
def wipeR (t : Tg) (ρ : Ro) : Ro := match t with
  | .one i => ρ.set i none
  | .two i j => (ρ.set j none).set i none
section
variable {K : KF} {G H : Hp}
theorem Sl.wipe : ∀ {ρ : Ro} {σ : L2.St} {S : List Addr} (i : Nat), Sl K G H ρ σ S → ∃ S', Sl K G H (ρ.set i none) (σ.set i none) S' ∧ S'.Sublist S
  | _, _, _, i, .nil => ⟨[], by simpa using Sl.nil, .refl _⟩
  | _, _, _, 0, .no h => ⟨_, .no h, .refl _⟩
  | _, _, _, 0, .so h1 h2 => ⟨_, .no h2, List.sublist_append_right _ _⟩
  | _, _, _, i + 1, .no h => by
    obtain ⟨S', h1, h2⟩ := Sl.wipe i h
    exact ⟨S', .no h1, h2⟩
  | _, _, _, i + 1, .so k1 k2 => by
    obtain ⟨S', h1, h2⟩ := Sl.wipe i k2
    exact ⟨_, .so k1 h1, List.Sublist.append (.refl _) h2⟩
theorem Sm.sub {ρ ρ' : Ro} {σ σ' : L2.St} {S S' : List Addr} (m : Sm K G H ρ σ S) (h : Sl K G H ρ' σ' S') (s : S'.Sublist S) : Sm K G H ρ' σ' S' :=
  ⟨h, m.nd.sublist s, fun a ha => m.out a (s.subset ha), m.le⟩
theorem Sm.wipe {ρ : Ro} {σ : L2.St} {S : List Addr} (m : Sm K G H ρ σ S) (t : Tg) : ∃ S', Sm K G H (wipeR t ρ) (L2.wipe σ t.is) S' := by
  cases t with
  | one i =>
    obtain ⟨S', h1, h2⟩ := m.sl.wipe i
    exact ⟨S', m.sub h1 h2⟩
  | two i j =>
    obtain ⟨S1, h1, h2⟩ := m.sl.wipe j
    obtain ⟨S2, h3, h4⟩ := h1.wipe i
    exact ⟨S2, m.sub h3 (h4.trans h2)⟩
/-- a datum is laid into a slot -/
theorem Sm.fz {ρ : Ro} {σ : L2.St} {S : List Addr} (m : Sm K G H ρ σ S) {i : Nat} (hi : i < ρ.length) {v : V} {d : D} (r : Rp K G v d) : ∃ S', Sm K G H (ρ.set i (some (.fz d))) (σ.set i (some v)) S' ∧ ∀ a ∈ S', a ∈ S := by
  obtain ⟨S', R, h1, h2, h3⟩ := m.sl.put i (.fz r) hi
  refine ⟨S', ⟨h1, h2.nodup_iff.mpr (m.nd.sublist h3), fun a ha => m.out a (h3.subset (by simpa using h2.mem_iff.mp ha)), m.le⟩, fun a ha => h3.subset (by simpa using h2.mem_iff.mp ha)⟩
theorem set_none {α : Type} {l : List (Option α)} {i : Nat} {x : α} : (l.set i (some x)).set i none = l.set i none := List.set_set ..
theorem tg_ok {t : Tg} {ρ ρ' : Ro} {σ : L2.St} {S : List Addr} {v : V} {d : D} {Q : L2.St → Hp → Prop} (m : Sm K G H ρ σ S) (r : Rp K G v d) (e : setT t ρ d = some ρ')
    (q : ∀ σ' S', Sm K G H ρ' σ' S' → (∀ a ∈ S', a ∈ S) → L2.wipe σ' t.is = L2.wipe σ t.is → Q σ' H) : gT K t v σ H Q := by
  cases t with
  | one i =>
    by_cases hi : i < ρ.length
    · have e1 : ρ.set i (some (.fz d)) = ρ' := by simpa [setT, hi] using e
      subst e1
      obtain ⟨S', h, hs⟩ := m.fz hi r
      exact q _ S' h hs (by simp only [Tg.is, L2.wipe]; exact set_none)
    · simp [setT, hi] at e
  | two i j =>
    cases d with
    | tuple xs =>
      match xs, e, r with
      | [x, y], e, r =>
        by_cases hc : i < ρ.length ∧ j < ρ.length ∧ i ≠ j
        · have e1 : (ρ.set i (some (.fz x))).set j (some (.fz y)) = ρ' := by
            simp only [setT, if_pos hc] at e
            exact Option.some.inj e
          subst e1
          obtain ⟨hi, hj, hne⟩ := hc
          cases r with
          | @tup a vs _ k1 k2 =>
            cases k2 with
            | cons r1 k2 =>
              cases k2 with
              | cons r2' k2 =>
                cases k2
                refine ⟨a, _, rfl, sqT_le m.le k1, rfl, _, _, rfl, ?_⟩
                refine ⟨_, _, rfl, rfl, ?_⟩
                obtain ⟨S1, h1, s1⟩ := m.fz hi r1
                obtain ⟨S2, h2, s2⟩ := h1.fz (by simpa using hj) r2'
                refine q _ S2 h2 (fun a ha => s1 a (s2 a ha)) ?_
                simp only [Tg.is, L2.wipe]
                rw [set_none, List.set_comm _ _ hne, set_none]
        · simp only [setT, if_neg hc] at e
          cases e
      | [], e, r => simp [setT] at e
      | [_], e, r => simp [setT] at e
      | _ :: _ :: _ :: _, e, r => simp [setT] at e
    | _ => simp [setT] at e
theorem wipe_again (σ : L2.St) (t : Tg) : L2.wipe (L2.wipe σ t.is) t.is = L2.wipe σ t.is := by
  cases t with
  | one i => simp only [Tg.is, L2.wipe]; exact List.set_set ..
  | two i j =>
    simp only [Tg.is, L2.wipe]
    apply List.ext_getElem?
    intro k
    simp only [List.getElem?_set, List.length_set]
    repeat' split
    all_goals simp_all
theorem orA_snoc : ∀ {vs : List V} {os : List O} {S T : List Addr} {v : V} {o : O}, OrA K G H vs os S → Or K G H v o T → OrA K G H (vs ++ [v]) (os ++ [o]) (S ++ T)
  | _, _, _, T, _, _, .nil, r => by
    have := OrA.cons r (OrA.nil (K := K) (G := G) (H := H))
    simpa using this
  | _, _, _, T, _, _, .cons h t, r => by
    rw [List.append_assoc]
    exact .cons h (orA_snoc t r)
end

/-! ### comprehensions -/
def lcL (t : Tg) (c : Ro → Rz Bool) (f : Ro → Rz O) (ρ : Ro) : List D → Rz (List O)
  | [] => .ok []
  | d :: ds => match setT t ρ d with
    | none => .st
    | some ρ' => (c ρ').bind fun b => match b with
      | true => (f ρ').bind fun o => (lcL t c f ρ ds).bind fun os => .ok (o :: os)
      | false => lcL t c f ρ ds
def noRs {α : Type} : Rz α → Rz α
  | .rs _ => .st
  | r => r
theorem noRs_ok {α : Type} {r : Rz α} {a : α} (h : noRs r = .ok a) : r = .ok a := by
  cases r with
  | ok => exact h
  | rs => cases h
  | st => cases h
def oLc (t : Tg) (c : Ro → Rz Bool) (f : Ro → Rz O) (it : Ro → Rz (List D)) (ρ : Ro) : Rz O := (it ρ).bind fun ds => (noRs (lcL t c f (wipeR t ρ) ds)).bind fun os => if os.length < sizeLine then .ok (.ol os) else .st

theorem lcL_len {t : Tg} {c : Ro → Rz Bool} {f : Ro → Rz O} {ρ : Ro} : ∀ {ds : List D} {os : List O}, lcL t c f ρ ds = .ok os → os.length ≤ ds.length
  | [], os, h => by cases h; exact Nat.le_refl _
  | d :: ds, os, h => by
    unfold lcL at h
    split at h
    · cases h
    · next ρ' _ =>
      cases e : c ρ' with
      | ok b =>
        rw [e] at h
        simp only [Rz.bind_ok] at h
        cases b with
        | true =>
          simp only at h
          cases e2 : f ρ' with
          | ok o =>
            rw [e2] at h
            simp only [Rz.bind_ok] at h
            cases e3 : lcL t c f ρ ds with
            | ok os' =>
              rw [e3] at h
              cases h
              have := lcL_len e3
              simp only [List.length_cons]
              omega
            | rs => rw [e3] at h; cases h
            | st => rw [e3] at h; cases h
          | rs => rw [e2] at h; cases h
          | st => rw [e2] at h; cases h
        | false =>
          have := lcL_len h
          simp only [List.length_cons]
          omega
      | rs => rw [e] at h; cases h
      | st => rw [e] at h; cases h

section
variable {X : Cx} {W : WX} {tg iter elt : Expr} {ifs : List Expr} {scope : Scope} {own : List (Str × Nat)} {pos : Pos} {fi : Ro → Rz (List D)} {bc : Ro → Rz Bool} {fe : Ro → Rz O} {ow : Bool}
abbrev W0 : WX := fun _ _ _ _ => False
abbrev PBs (X : Cx) (W : WX) (ifs : List Expr) (f : Ro → Rz Bool) : Prop := PTs X ifs (tT X.K X.mg W f)

theorem lc_t {K : KF} {mg : Mg} {t : Tg} {σ : L2.St} {H : Hp} {Q : VK} (h : tO K mg W false (oLc t bc fe fi) σ H Q) :
    tLc (tI K mg W true fi) (gT K t) (tT K mg W0 bc) (tO K mg W0 false fe) t.is σ H Q := by
  obtain ⟨ρ, G, S, m, hq⟩ := h
  refine ⟨ρ, G, S, m, ?_⟩
  unfold oLc at hq
  cases e : fi ρ with
  | rs c => rw [e] at hq; exact hq
  | st => rw [e] at hq; exact hq.elim
  | ok ds =>
    rw [e] at hq
    simp only [Rz.bind_ok] at hq
    intro J G1 H1 Gd Y x1 wk hgd hy D hD
    cases e2 : noRs (lcL t bc fe (wipeR t ρ) ds) with
    | rs c => rw [e2] at hq; cases hr : lcL t bc fe (wipeR t ρ) ds <;> rw [hr] at e2 <;> cases e2
    | st => rw [e2] at hq; exact hq.elim
    | ok os0 =>
      rw [e2] at hq
      simp only [Rz.bind_ok] at hq
      have e2 := noRs_ok e2
      split at hq
      · next hsz =>
        have hD1 : G1 D = none := none_of x1.s hD
        obtain ⟨S0, m0⟩ := (m.up x1).wipe t
        refine lc_it wk (fun i H2 => ∃ G2 vs os rest T, lcL t bc fe (wipeR t ρ) (ds.drop i) = .ok rest ∧ os ++ rest = os0 ∧ H2 D = some (.lst vs) ∧ OrA K G2 H2 vs os T ∧ T.Nodup ∧ (∀ a ∈ T, H1 a = none ∧ G2 a = none ∧ a ≠ D) ∧ Xt G1 H1 G2 H2 ∧ G2 D = none)
          ⟨G1, [], [], os0, [], e2, rfl, upd_same, .nil, .nil, fun a h => absurd h (by simp), Xt.own x1.s hD, hD1⟩ ?_ ?_ ?_
        · rintro i H2 _ ⟨G2, _, _, _, _, _, _, _, _, _, _, x2, _⟩
          exact hgd H2 x2.h
        · rintro i x H2 H3 hi ⟨G2, vs, os, rest, T, hr, ho, hl, hs, nd, fr, x2, gD⟩ y
          obtain ⟨G3, d, x3, hd, r⟩ := hy i H2 x H3 G2 hi (hgd H2 x2.h) y x2.g x2.s
          have hdr : ds.drop i = d :: ds.drop (i + 1) := by
            obtain ⟨hlt, hd⟩ := List.getElem?_eq_some_iff.mp hd
            rw [List.drop_eq_getElem_cons hlt, hd]
          rw [hdr] at hr
          have x13 := x2.trans x3
          have hl3 : H3 D = some (.lst vs) := x3.h D _ hl
          have gD3 : G3 D = none := by rw [x3.n D (by rw [hl]; exact fun q => nomatch q)]; exact gD
          unfold lcL at hr
          split at hr
          · cases hr
          · next ρ' hset =>
            obtain ⟨S3, m3⟩ : ∃ S3, Sm K G3 H3 (wipeR t ρ) (L2.wipe σ t.is) S3 := ⟨S0, m0.up x13⟩
            refine tg_ok m3 r hset fun σ2 S2 m2 _ hw => ⟨by rw [hw]; exact wipe_again σ t, ρ', G3, S2, m2, ?_⟩
            cases ec : bc ρ' with
            | rs c => rw [ec] at hr; cases hr
            | st => rw [ec] at hr; cases hr
            | ok b =>
              rw [ec] at hr
              simp only [Rz.bind_ok] at hr
              intro G4 H4 x4
              have x14 := x13.trans x4
              cases b with
              | false =>
                simp only [Bool.false_eq_true, if_false]
                exact ⟨G4, vs, os, rest, T, hr, ho, x4.h D _ hl3, hs.up (x3.g.trans x4.g) (x3.h.trans x4.h), nd, fun a ha => ⟨(fr a ha).1, by
                  obtain ⟨z, hz⟩ := OrA.mem _ _ _ hs a ha
                  rw [(x3.trans x4).n a (by rw [hz]; exact fun q => nomatch q)]
                  exact (fr a ha).2.1, (fr a ha).2.2⟩, x14, by rw [x4.n D (by rw [hl3]; exact fun q => nomatch q)]; exact gD3⟩
              | true =>
                simp only [if_true]
                refine ⟨ρ', G4, S2, m2.up x4, ?_⟩
                cases ee : fe ρ' with
                | rs c => rw [ee] at hr; cases hr
                | st => rw [ee] at hr; cases hr
                | ok o =>
                  rw [ee] at hr
                  simp only [Rz.bind_ok] at hr
                  cases er : lcL t bc fe (wipeR t ρ) (ds.drop (i + 1)) with
                  | rs c => rw [er] at hr; cases hr
                  | st => rw [er] at hr; cases hr
                  | ok rest' =>
                    rw [er] at hr
                    cases hr
                    intro v G5 H5 T5 x5 r5 f5
                    obtain ⟨nd5, fr5⟩ := f5 rfl
                    have x15 := x14.trans x5
                    have x25 := (x3.trans x4).trans x5
                    have hl5 : H5 D = some (.lst vs) := x25.h D _ hl
                    have gD5 : G5 D = none := by rw [x25.n D (by rw [hl]; exact fun q => nomatch q)]; exact gD
                    have notD : ∀ a, a ∈ T → a ≠ D := fun a ha => (fr a ha).2.2
                    have notD5 : ∀ a, a ∈ T5 → a ≠ D := fun a ha z => by
                      have := (fr5 a ha).1
                      rw [z, x4.h D _ hl3] at this
                      cases this
                    refine ⟨vs, hl5, ?_, G5, vs ++ [v], os ++ [o], _, T ++ T5, rfl, by rw [List.append_assoc]; exact ho, upd_same, ?_, ?_, ?_, ?_, gD5⟩
                    · rw [hs.length]
                      have : os.length ≤ os0.length := by rw [← ho, List.length_append]; omega
                      omega
                    · have k1 : OrA K G5 (upd H5 D (.lst (vs ++ [v]))) vs os T := OrA.up' x25.g _ _ _ (fun a ha z hz => by rw [upd_ne (notD a ha)]; exact x25.h a z hz) hs
                      have k2 : Or K G5 (upd H5 D (.lst (vs ++ [v]))) v o T5 := Or.up' Le.rfl' _ _ _ (fun a ha z hz => by rw [upd_ne (notD5 a ha)]; exact hz) r5
                      exact orA_snoc k1 k2
                    · refine List.nodup_append.mpr ⟨nd, nd5, fun a ha b hb z => ?_⟩
                      subst z
                      obtain ⟨w, hw⟩ := OrA.mem _ _ _ hs a ha
                      have := (fr5 a hb).1
                      rw [(x3.trans x4).h a w hw] at this
                      cases this
                    · intro a ha
                      rcases List.mem_append.mp ha with ha | ha
                      · refine ⟨(fr a ha).1, ?_, notD a ha⟩
                        obtain ⟨z, hz⟩ := OrA.mem _ _ _ hs a ha
                        rw [x25.n a (by rw [hz]; exact fun q => nomatch q)]
                        exact (fr a ha).2.1
                      · exact ⟨back_none x14.h (fr5 a ha).1, (fr5 a ha).2, notD5 a ha⟩
                    · refine ⟨x15.g, fun a z hz => ?_, fun a z hz => ?_, x15.n⟩
                      · have : a ≠ D := fun q => by rw [q, gD5] at hz; cases hz
                        rw [upd_ne this]
                        exact x15.s a z hz
                      · have : a ≠ D := fun q => by rw [q, hD] at hz; cases hz
                        rw [upd_ne this]
                        exact x15.h a z hz
        · rintro H2 ⟨G2, vs, os, rest, T, hr, ho, hl, hs, nd, fr, x2, gD⟩
          rw [List.drop_length] at hr
          cases hr
          rw [List.append_nil] at ho
          subst ho
          refine hq (.ref D) G2 H2 (D :: T) (x1.trans x2) (.ol hl hs) fun _ => ⟨List.nodup_cons.mpr ⟨fun z => (fr D z).2.2 rfl, nd⟩, fun a ha => ?_⟩
          rcases List.mem_cons.mp ha with rfl | ha
          · exact ⟨back_none x1.h hD, gD⟩
          · exact ⟨back_none x1.h (fr a ha).1, (fr a ha).2.1⟩
      · exact hq.elim
end
end Mw
/-! Mw12: the comprehension's rule. -/
namespace Mw
open PySem PySem.Spec PyProof.Rows L2

/-- what may be laid into a slot: a part of a slot only where it is known data -/
def nwO (p : Bool) (o : O) : Rz O := match p, o with
  | false, o => .ok o
  | true, .fz d => .ok (.fz d)
  | true, _ => .st
def nw (p : Bool) (f : Ro → Rz O) (ρ : Ro) : Rz O := (f ρ).bind (nwO p)
section
variable {X : Cx} {W : WX} {tg iter elt a : Expr} {ifs : List Expr} {scope : Scope} {own : List (Str × Nat)} {pos : Pos} {fi : Ro → Rz (List D)} {bc : Ro → Rz Bool} {fe fa : Ro → Rz O} {p : Bool}
theorem po_nw (h : PQ X W p a fa) : PQ X W false a (nw p fa) := PE.wk h fun σ H Q ⟨ρ, G, S, m, hq⟩ => by
  refine ⟨ρ, G, S, m, ?_⟩
  unfold nw at hq
  cases e : fa ρ with
  | ok o =>
    simp only [e, Rz.bind_ok] at hq
    intro v G' H' T x r fr
    cases p with
    | false => exact hq v G' H' T x r fr
    | true =>
      cases o with
      | fz d =>
        cases r with
        | fz r => exact hq v G' H' [] x (.fz r) fun _ => ⟨.nil, fun _ h => absurd h (by simp)⟩
      | ol _ => exact hq.elim
      | ot _ => exact hq.elim
  | rs c => simp only [e, Rz.bind_rs] at hq; exact hq
  | st => simp only [e, Rz.bind_st] at hq; exact hq.elim
theorem po_lc {t : Tg} (hc : X.calm = true) (hN : X.N.Nodup) (hi : PIt X W true tg iter fi) (ok : BlkOk X.N X.env.scope scope own) (ht : own.map (·.2) = t.is)
    (hg : ∀ (s : Shared) (H : Hp) (C : Addr) (cl : List (Str × Addr)) (fp : List Addr), PG (X.blk s H scope (compEnvC scope cl C X.env) fp) tg (gT X.K t))
    (hb : ∀ (s : Shared) (H : Hp) (C : Addr) (cl : List (Str × Addr)) (fp : List Addr), PBs (X.blk s H scope (compEnvC scope cl C X.env) fp) W0 ifs bc)
    (he : ∀ (s : Shared) (H : Hp) (C : Addr) (cl : List (Str × Addr)) (fp : List Addr), PQ (X.blk s H scope (compEnvC scope cl C X.env) fp) W0 false elt fe) (hs : ∀ x, foldedSetIterable iter X.env x = pure x) :
    PQ X W false (.ListComp elt [⟨tg, iter, ifs, 0⟩] scope pos) (oLc t bc fe fi) := by
  refine PE.wk (pe_lc (tt := tT X.K X.mg W0 bc) (te := tO X.K X.mg W0 false fe) hc hN hi ok hg (fun s H C cl fp => hb s H C cl fp) (fun s H C cl fp => he s H C cl fp) hs) fun σ H Q h => ?_
  rw [ht]
  exact lc_t h
end
end Mw
/-! Ms1: a path within a slot; what is changed there. -/
namespace Mw
open PySem PySem.Spec PyProof.Rows L2

/-- the value at a path -/
def walkV (H : Hp) : V → List Nat → Option V
  | v, [] => some v
  | .ref a, j :: js => match H a with
    | some (.lst vs) => (vs[j]?).bind fun w => walkV H w js
    | some (.tup vs) => (vs[j]?).bind fun w => walkV H w js
    | _ => none
  | _, _ :: _ => none
def subO : O → List Nat → Option O
  | o, [] => some o
  | .ol os, j :: js => (os[j]?).bind fun o => subO o js
  | .ot os, j :: js => (os[j]?).bind fun o => subO o js
  | .fz _, _ :: _ => none
def putO : O → List Nat → O → O
  | _, [], x => x
  | .ol os, j :: js, x => match os[j]? with
    | some o => .ol (os.set j (putO o js x))
    | none => .ol os
  | .ot os, j :: js, x => match os[j]? with
    | some o => .ot (os.set j (putO o js x))
    | none => .ot os
  | .fz d, _ :: _, _ => .fz d
/-- A lies in B, up to the order -/
def Sbp (A B : List Addr) : Prop := ∃ L, A.Perm L ∧ L.Sublist B
theorem Sbp.refl (A : List Addr) : Sbp A A := ⟨A, .refl _, .refl _⟩
theorem Sbp.of_perm {A B : List Addr} (h : A.Perm B) : Sbp A B := ⟨B, h, .refl _⟩
theorem Sbp.of_sub {A B : List Addr} (h : A.Sublist B) : Sbp A B := ⟨A, .refl _, h⟩
theorem Sbp.mem {A B : List Addr} (h : Sbp A B) {a : Addr} (ha : a ∈ A) : a ∈ B := by
  obtain ⟨L, h1, h2⟩ := h
  exact h2.subset (h1.mem_iff.mp ha)
theorem Sbp.nodup {A B : List Addr} (h : Sbp A B) (n : B.Nodup) : A.Nodup := by
  obtain ⟨L, h1, h2⟩ := h
  exact h1.nodup_iff.mpr (n.sublist h2)
theorem sub_perm {A B B' : List Addr} (h : A.Sublist B) (p : B.Perm B') : ∃ A', A.Perm A' ∧ A'.Sublist B' := by
  induction p generalizing A with
  | nil => exact ⟨A, .refl _, h⟩
  | cons x p ih =>
    cases h with
    | cons _ h =>
      obtain ⟨A', h1, h2⟩ := ih h
      exact ⟨A', h1, h2.cons _⟩
    | cons_cons _ h =>
      obtain ⟨A', h1, h2⟩ := ih h
      exact ⟨_ :: A', h1.cons _, h2.cons_cons _⟩
  | swap x y l =>
    cases h with
    | cons _ h =>
      cases h with
      | cons _ h => exact ⟨A, .refl _, (h.cons _).cons _⟩
      | cons_cons _ h => exact ⟨_, .refl _, (h.cons _).cons_cons _⟩
    | cons_cons _ h =>
      cases h with
      | cons _ h => exact ⟨_, .refl _, (h.cons_cons _).cons _⟩
      | cons_cons _ h => exact ⟨_, .swap .., (h.cons_cons _).cons_cons _⟩
  | trans p q ih1 ih2 =>
    obtain ⟨A', h1, h2⟩ := ih1 h
    obtain ⟨A2, h3, h4⟩ := ih2 h2
    exact ⟨A2, h1.trans h3, h4⟩
theorem Sbp.trans {A B C : List Addr} (h : Sbp A B) (k : Sbp B C) : Sbp A C := by
  obtain ⟨L, h1, h2⟩ := h
  obtain ⟨M, k1, k2⟩ := k
  obtain ⟨A', a1, a2⟩ := sub_perm h2 k1
  exact ⟨A', h1.trans a1, a2.trans k2⟩
theorem Sbp.append {A B C E : List Addr} (h : Sbp A B) (k : Sbp C E) : Sbp (A ++ C) (B ++ E) := by
  obtain ⟨L, h1, h2⟩ := h
  obtain ⟨M, k1, k2⟩ := k
  exact ⟨L ++ M, h1.append k1, h2.append k2⟩
theorem Sbp.cons {A B : List Addr} (a : Addr) (h : Sbp A B) : Sbp (a :: A) (a :: B) := by
  obtain ⟨L, h1, h2⟩ := h
  exact ⟨a :: L, h1.cons _, h2.cons_cons _⟩

section
variable {K : KF} {G H G' H' : Hp}
theorem perm3 (A B C : List Addr) : (A ++ (B ++ C)).Perm (B ++ (A ++ C)) := by
  rw [← List.append_assoc, ← List.append_assoc]
  exact List.Perm.append_right C List.perm_append_comm
theorem OrA.foc : ∀ {vs : List V} {os : List O} {S : List Addr} {j : Nat} {o : O}, OrA K G H vs os S → os[j]? = some o → ∃ v T R, vs[j]? = some v ∧ Or K G H v o T ∧ S.Perm (T ++ R) ∧
    ∀ (G' H' : Hp) (o' : O) (T' : List Addr), Le G G' → (∀ a ∈ R, ∀ x, H a = some x → H' a = some x) → Or K G' H' v o' T' → ∃ S', OrA K G' H' vs (os.set j o') S' ∧ S'.Perm (T' ++ R)
  | _, _, _, _, _, .nil, e => by simp at e
  | _, _, _, 0, _, @OrA.cons _ _ _ _ _ _ _ S T h1 h2, e => by
    simp at e
    subst e
    exact ⟨_, S, T, rfl, h1, .refl _, fun G' H' o' T' l k r => ⟨T' ++ T, .cons r (OrA.up' l _ _ _ k h2), .refl _⟩⟩
  | _, _, _, j + 1, o, @OrA.cons _ _ _ _ _ _ _ S0 T0 g1 g2, e => by
    obtain ⟨v, T, R, h1, h2, h3, h4⟩ := OrA.foc (j := j) (o := o) g2 (by simpa using e)
    refine ⟨v, T, S0 ++ R, by simpa using h1, h2, (List.Perm.append_left S0 h3).trans (perm3 _ _ _), fun G' H' o' T' l k r => ?_⟩
    obtain ⟨S', k1, k2⟩ := h4 G' H' o' T' l (fun a ha => k a (List.mem_append_right _ ha)) r
    exact ⟨S0 ++ S', .cons (Or.up' l _ _ _ (fun a ha => k a (List.mem_append_left _ ha)) g1) k1, (List.Perm.append_left S0 k2).trans (perm3 _ _ _)⟩
theorem Or.foc : ∀ (js : List Nat) {v : V} {o : O} {S : List Addr} {o1 : O}, Or K G H v o S → subO o js = some o1 → ∃ v1 T R, walkV H v js = some v1 ∧ Or K G H v1 o1 T ∧ S.Perm (T ++ R) ∧
    ∀ (G' H' : Hp) (o' : O) (T' : List Addr), Le G G' → (∀ a ∈ R, ∀ x, H a = some x → H' a = some x) → Or K G' H' v1 o' T' → ∃ S', Or K G' H' v (putO o js o') S' ∧ S'.Perm (T' ++ R)
  | [], v, o, S, o1, h, e => by
    have e1 : o = o1 := by
      cases o <;> simpa [subO] using e
    subst e1
    refine ⟨v, S, [], ?_, h, by simp, fun G' H' o' T' _ _ r => ⟨T', ?_, by simp⟩⟩
    · cases v <;> rfl
    · cases o <;> simpa [putO] using r
  | j :: js, v, o, S, o1, h, e => by
    cases h with
    | fz r => simp [subO] at e
    | @ol a vs os S0 h1 h2 =>
      simp only [subO] at e
      obtain ⟨o2, e1, e2⟩ := Option.bind_eq_some_iff.mp e
      obtain ⟨w, T1, R1, k1, k2, k3, k4⟩ := h2.foc e1
      obtain ⟨v1, T, R2, m1, m2, m3, m4⟩ := Or.foc js k2 e2
      refine ⟨v1, T, a :: (R2 ++ R1), by simp [walkV, h1, k1, m1], m2, ?_, fun G' H' o' T' l k r => ?_⟩
      · have p1 : S0.Perm (T ++ (R2 ++ R1)) := k3.trans (by rw [← List.append_assoc]; exact List.Perm.append_right R1 m3)
        exact (p1.cons a).trans (List.perm_middle (a := a)).symm
      · obtain ⟨S1, n1, n2⟩ := m4 G' H' o' T' l (fun b hb => k b (List.mem_cons_of_mem _ (List.mem_append_left _ hb))) r
        obtain ⟨S2, q1, q2⟩ := k4 G' H' _ S1 l (fun b hb => k b (List.mem_cons_of_mem _ (List.mem_append_right _ hb))) n1
        refine ⟨a :: S2, ?_, ?_⟩
        · simp only [putO, e1]
          exact .ol (k a List.mem_cons_self _ h1) q1
        · have p1 : S2.Perm (T' ++ (R2 ++ R1)) := q2.trans (by rw [← List.append_assoc]; exact List.Perm.append_right R1 n2)
          exact (p1.cons a).trans (List.perm_middle (a := a)).symm
    | @ot a vs os S0 h1 h2 =>
      simp only [subO] at e
      obtain ⟨o2, e1, e2⟩ := Option.bind_eq_some_iff.mp e
      obtain ⟨w, T1, R1, k1, k2, k3, k4⟩ := h2.foc e1
      obtain ⟨v1, T, R2, m1, m2, m3, m4⟩ := Or.foc js k2 e2
      refine ⟨v1, T, a :: (R2 ++ R1), by simp [walkV, h1, k1, m1], m2, ?_, fun G' H' o' T' l k r => ?_⟩
      · have p1 : S0.Perm (T ++ (R2 ++ R1)) := k3.trans (by rw [← List.append_assoc]; exact List.Perm.append_right R1 m3)
        exact (p1.cons a).trans (List.perm_middle (a := a)).symm
      · obtain ⟨S1, n1, n2⟩ := m4 G' H' o' T' l (fun b hb => k b (List.mem_cons_of_mem _ (List.mem_append_left _ hb))) r
        obtain ⟨S2, q1, q2⟩ := k4 G' H' _ S1 l (fun b hb => k b (List.mem_cons_of_mem _ (List.mem_append_right _ hb))) n1
        refine ⟨a :: S2, ?_, ?_⟩
        · simp only [putO, e1]
          exact .ot (k a List.mem_cons_self _ h1) q1
        · have p1 : S2.Perm (T' ++ (R2 ++ R1)) := q2.trans (by rw [← List.append_assoc]; exact List.Perm.append_right R1 n2)
          exact (p1.cons a).trans (List.perm_middle (a := a)).symm
/-- a slot, a path in it -/
theorem Sl.focP {ρ : Ro} {σ : L2.St} {S : List Addr} {i : Nat} {o o1 : O} {js : List Nat} (h : Sl K G H ρ σ S) (e : ρ[i]? = some (some o)) (e1 : subO o js = some o1) : ∃ v v1 T R, σ[i]? = some (some v) ∧ walkV H v js = some v1 ∧ Or K G H v1 o1 T ∧ S.Perm (T ++ R) ∧
    ∀ (G' H' : Hp) (o' : O) (T' : List Addr), Le G G' → (∀ a ∈ R, ∀ x, H a = some x → H' a = some x) → Or K G' H' v1 o' T' → ∃ S', Sl K G' H' (ρ.set i (some (putO o js o'))) σ S' ∧ S'.Perm (T' ++ R) := by
  obtain ⟨v, T, R, h1, h2, h3, h4⟩ := h.foc e
  obtain ⟨v1, T1, R1, k1, k2, k3, k4⟩ := h2.foc js e1
  have hi : i < ρ.length := (List.getElem?_eq_some_iff.mp e).1
  refine ⟨v, v1, T1, R1 ++ R, h1, k1, k2, h3.trans (by rw [← List.append_assoc]; exact List.Perm.append_right R k3), fun G' H' o' T' l k r => ?_⟩
  obtain ⟨S1, m1, m2⟩ := k4 G' H' o' T' l (fun a ha => k a (List.mem_append_left _ ha)) r
  obtain ⟨S2, n1, n2⟩ := h4 G' H' _ v S1 l (fun a ha => k a (List.mem_append_right _ ha)) m1
  have hσ : σ.set i (some v) = σ := by
    apply List.ext_getElem?
    intro k
    by_cases hk : i = k
    · subst hk
      rw [List.getElem?_set_self (by rw [← h.length]; exact hi), h1]
    · rw [List.getElem?_set_ne hk]
  rw [hσ] at n1
  exact ⟨S2, n1, n2.trans (by rw [← List.append_assoc]; exact List.Perm.append_right R m2)⟩
theorem walkV_up (l : Le H H') : ∀ (js : List Nat) {v w : V}, walkV H v js = some w → walkV H' v js = some w
  | [], v, w, h => by cases v <;> simpa [walkV] using h
  | j :: js, v, w, h => by
    cases v with
    | ref a =>
      simp only [walkV] at h ⊢
      cases e : H a with
      | none => rw [e] at h; cases h
      | some x =>
        rw [e] at h
        rw [l a x e]
        cases x with
        | lst vs =>
          simp only at h ⊢
          obtain ⟨u, h1, h2⟩ := Option.bind_eq_some_iff.mp h
          rw [h1]
          exact walkV_up l js h2
        | tup vs =>
          simp only at h ⊢
          obtain ⟨u, h1, h2⟩ := Option.bind_eq_some_iff.mp h
          rw [h1]
          exact walkV_up l js h2
        | _ => cases h
    | _ => simp [walkV] at h
theorem walkV_snoc : ∀ (js : List Nat) {v w x : V} {j : Nat}, walkV H v js = some w → walkV H w [j] = some x → walkV H v (js ++ [j]) = some x
  | [], v, w, x, j, h, k => by
    have e : v = w := by cases v <;> simpa [walkV] using h
    subst e
    exact k
  | i :: js, v, w, x, j, h, k => by
    cases v with
    | ref a =>
      simp only [walkV, List.cons_append] at h ⊢
      cases e : H a with
      | none => rw [e] at h; cases h
      | some y =>
        rw [e] at h
        cases y with
        | lst vs =>
          simp only at h ⊢
          obtain ⟨u, h1, h2⟩ := Option.bind_eq_some_iff.mp h
          rw [h1]
          exact walkV_snoc js h2 k
        | tup vs =>
          simp only at h ⊢
          obtain ⟨u, h1, h2⟩ := Option.bind_eq_some_iff.mp h
          rw [h1]
          exact walkV_snoc js h2 k
        | _ => cases h
    | _ => simp [walkV] at h
end

/-! ### a path's reading -/
def oStep (o : O) (js : List Nat) (y : O) : Rz (List Nat) := match y with
  | .fz (.int n) => match subO o js with
    | some (.ol os) => match ixN os.length n with | some j => .ok (js ++ [j]) | none => .st
    | some (.ot os) => match ixN os.length n with | some j => .ok (js ++ [j]) | none => .st
    | _ => .st
  | _ => .st
theorem oStep_inv {o y : O} {js : List Nat} {r : Rz (List Nat)} (h : oStep o js y = r) : r = .st ∨ ∃ os n j, y = .fz (.int n) ∧ (subO o js = some (.ol os) ∨ subO o js = some (.ot os)) ∧ ixN os.length n = some j ∧ r = .ok (js ++ [j]) := by
  unfold oStep at h
  split at h
  · next n =>
    split at h
    · next os hs =>
      split at h
      · next j hj => exact .inr ⟨os, n, j, rfl, .inl hs, hj, h.symm⟩
      · exact .inl h.symm
    · next os hs =>
      split at h
      · next j hj => exact .inr ⟨os, n, j, rfl, .inr hs, hj, h.symm⟩
      · exact .inl h.symm
    · exact .inl h.symm
  · exact .inl h.symm
def ePa (mg : Mg) (W : WX) (σ : L2.St) (G H : Hp) (Q : VK) : Rz (Nat × List Nat) → Prop
  | .ok p => ∀ v0 v1 G' H', Xt G H G' H' → σ[p.1]? = some (some v0) → walkV H' v0 p.2 = some v1 → Q v1 H'
  | .rs c => rsW mg W σ G H c
  | .st => False
def tPa (K : KF) (mg : Mg) (W : WX) (f : Ro → Rz (Nat × List Nat)) : TE := fun σ H Q => ∃ ρ G S, Sm K G H ρ σ S ∧ ePa mg W σ G H Q (f ρ)
abbrev PPa (X : Cx) (W : WX) (e : Expr) (f : Ro → Rz (Nat × List Nat)) : Prop := PE X e (tPa X.K X.mg W f)
def paV (i : Nat) (ρ : Ro) : Rz (Nat × List Nat) := match ρ[i]? with
  | some (some _) => .ok (i, [])
  | _ => .st
def paIx (f : Ro → Rz (Nat × List Nat)) (g : Ro → Rz O) (ρ : Ro) : Rz (Nat × List Nat) := (f ρ).bind fun p => (g ρ).bind fun y => match ρ[p.1]? with
  | some (some o) => (oStep o p.2 y).bind fun js => .ok (p.1, js)
  | _ => .st
section
variable {X : Cx} {W : WX} {a b : Expr} {f : Ro → Rz (Nat × List Nat)} {g : Ro → Rz O} {q : Bool} {pos : Pos}
theorem ppa_v {i : Nat} {x : Str} (hN : X.N[i]? = some x) (hv : Vis X.env.scope x) (hd : (x == ("__debug__" : Str)) = false) (hcd : (x == ("__classdict__" : Str)) = false) : PPa X W (.Name x pos) (paV i) := PE.wk (pe_var hN hv hd hcd) fun σ H Q ⟨ρ, G, S, m, hq⟩ => by
  unfold paV at hq
  split at hq
  · next o e2 =>
    obtain ⟨v, T, h1, _, _⟩ := m.sl.get e2
    exact ⟨v, h1, hq v v G H (Xt.refl m.le) h1 (by cases v <;> rfl)⟩
  · exact hq.elim
def rIxP : R2 := fun x y H Q => ∃ a vs n v, x = .ref a ∧ y = .int n ∧ (H a = some (.lst vs) ∨ H a = some (.tup vs)) ∧ atI vs n = some v ∧ Q v H
theorem rl_ixP : IxR X rIxP := by
  intro value slice pins s σ H x y v u Q I rx ry h hs
  obtain ⟨a, vs, n, w, rfl, rfl, h1 | h1, h2, q⟩ := h
  · exact ix_list value slice pins s σ H _ _ v u Q I rx ry ⟨a, vs, n, w, rfl, rfl, .of h1, h2, q⟩ hs
  · exact ix_tup value slice pins s σ H _ _ v u Q I rx ry ⟨a, vs, n, w, rfl, rfl, .of h1, h2, q⟩ hs
theorem ppa_ix (ha : PPa X W a f) (hb : PQ X W q b g) (hs : PlainIx b) : PPa X W (.Subscript a b pos) (paIx f g) := PE.wk (pe_ix rl_ixP ha hb hs) fun σ H Q ⟨ρ, G, S, m, hq⟩ => by
  refine ⟨ρ, G, S, m, ?_⟩
  unfold paIx at hq
  cases e : f ρ with
  | rs c => rw [e] at hq; exact hq
  | st => rw [e] at hq; exact hq
  | ok p =>
    obtain ⟨i, js⟩ := p
    rw [e] at hq
    simp only [Rz.bind_ok] at hq
    intro v0 v1 G1 H1 x1 hv0 hw
    refine ⟨ρ, G1, S, m.up x1, ?_⟩
    cases e2 : g ρ with
    | rs c => rw [e2] at hq; exact rsW.up hq x1
    | st => rw [e2] at hq; exact hq
    | ok y =>
      rw [e2] at hq
      simp only [Rz.bind_ok] at hq
      intro v2 G2 H2 T2 x2 r2' _
      have x12 := x1.trans x2
      have hw2 := walkV_up x2.h js hw
      split at hq
      · next o e3 =>
        generalize e4 : oStep o js y = r4 at hq
        rcases oStep_inv e4 with rfl | ⟨os, n, j, rfl, hs', hj, rfl⟩
        · exact hq.elim
        · have hjl : j < os.length := (ixN_seq hj).2.1
          have fin : ∀ a' vs, v1 = .ref a' → (H2 a' = some (.lst vs) ∨ H2 a' = some (.tup vs)) → vs.length = os.length → rIxP v1 v2 H2 Q := by
            intro a' vs ev g1 hl
            subst ev
            have hv : vs[j]? = some (vs[j]'(by omega)) := List.getElem?_eq_getElem (by omega)
            refine ⟨a', vs, n, _, rfl, r2'.int, g1, by unfold atI; rw [hl, hj]; exact hv, hq v0 _ G2 H2 x12 hv0 (walkV_snoc js hw2 ?_)⟩
            rcases g1 with g1 | g1
            · simp only [walkV, g1]; rw [hv]; rfl
            · simp only [walkV, g1]; rw [hv]; rfl
          rcases hs' with hs' | hs'
          · obtain ⟨w0, w1, T, R, k1, k2, k3, _⟩ := (m.up x12).sl.focP e3 hs'
            rw [hv0] at k1
            cases k1
            rw [hw2] at k2
            cases k2
            cases k3 with
            | ol g1 g2 => exact fin _ _ rfl (.inl g1) g2.length
          · obtain ⟨w0, w1, T, R, k1, k2, k3, _⟩ := (m.up x12).sl.focP e3 hs'
            rw [hv0] at k1
            cases k1
            rw [hw2] at k2
            cases k2
            cases k3 with
            | ot g1 g2 => exact fin _ _ rfl (.inr g1) g2.length
      · exact hq.elim
end
end Mw
/-! Ms2: how a statement ends; the simple statements. -/
namespace Mw
open PySem PySem.Spec PyProof.Rows L2

inductive Rs where
  | nx (ρ : Ro) | bk (ρ : Ro) | ct (ρ : Ro) | rt (o : O) (ρ : Ro) | rs (c : Str) (ρ : Ro) | st
/-- the entry: what is known, what is tracked, what is lent; which parameters are lent, their values -/
structure Bt where
  G : Hp
  H : Hp
  io : List Addr
  md : List Bool
  vs : List V
structure Bs (β : Bt) (G H : Hp) : Prop where
  g : Le β.G G
  h : ∀ a o, β.H a = some o → a ∈ β.io ∨ H a = some o
  d : ∀ a, β.H a ≠ none → H a ≠ none
  n : ∀ a, β.H a ≠ none → a ∈ β.io ∨ G a = β.G a
def Own (β : Bt) (S : List Addr) : Prop := ∀ a ∈ S, β.H a = none ∨ a ∈ β.io
def Lv (β : Bt) (σ : L2.St) : Prop := ∀ i : Nat, β.md[i]? = some true → ∃ v, β.vs[i]? = some v ∧ σ[i]? = some (some v)
/-- a slot that may be set -/
def Fr (β : Bt) (i : Nat) : Prop := β.md[i]? ≠ some true
theorem Lv.same {β : Bt} {σ σ' : L2.St} (l : Lv β σ) (h : ∀ i : Nat, β.md[i]? = some true → σ'[i]? = σ[i]?) : Lv β σ' := fun i hi => by
  obtain ⟨v, h1, h2⟩ := l i hi
  exact ⟨v, h1, by rw [h i hi, h2]⟩
theorem Lv.set {β : Bt} {σ : L2.St} (l : Lv β σ) {i : Nat} (f : Fr β i) (x : Option V) : Lv β (σ.set i x) := l.same fun j hj => by
  by_cases e : i = j
  · subst e; exact (f hj).elim
  · rw [List.getElem?_set_ne e]
def Stt (K : KF) (β : Bt) (ρ : Ro) (σ : L2.St) (G H : Hp) : Prop := ∃ S, Sm K G H ρ σ S ∧ Bs β G H ∧ Own β S ∧ Lv β σ
/-- .. and apart from T -/
def SttD (K : KF) (β : Bt) (ρ : Ro) (σ : L2.St) (G H : Hp) (T : List Addr) : Prop := ∃ S, Sm K G H ρ σ S ∧ Bs β G H ∧ Own β S ∧ Lv β σ ∧ ∀ a ∈ T, a ∉ S
theorem some_ne {H H' : Hp} (e : Le H H') {a : Addr} (h : H a ≠ none) : H' a ≠ none := fun z => h (none_of e z)
theorem Bs.up {β : Bt} {G H G' H' : Hp} (b : Bs β G H) (x : Xt G H G' H') : Bs β G' H' where
  g := b.g.trans x.g
  h := fun a o e => (b.h a o e).elim .inl fun q => .inr (x.h a o q)
  d := fun a e => some_ne x.h (b.d a e)
  n := fun a e => (b.n a e).elim .inl fun q => .inr (by rw [x.n a (b.d a e), q])
/-- new since the entry -/
theorem Bs.fresh {β : Bt} {G H : Hp} (b : Bs β G H) {a : Addr} (h : H a = none) : β.H a = none := by
  cases q : β.H a with
  | none => rfl
  | some o => exact absurd h (b.d a (by rw [q]; exact fun z => nomatch z))
theorem Stt.up {K : KF} {β : Bt} {ρ : Ro} {σ : L2.St} {G H G' H' : Hp} (s : Stt K β ρ σ G H) (x : Xt G H G' H') : Stt K β ρ σ G' H' :=
  let ⟨S, m, b, o, l⟩ := s
  ⟨S, m.up x, b.up x, o, l⟩
def eS (K : KF) (mg : Mg) (W : WX) (β : Bt) (G : Hp) (D : Ends) : Rs → Prop
  | .nx ρ => ∀ σ' G' H', Stt K β ρ σ' G' H' → Le G G' → D.nx σ' H'
  | .bk ρ => ∀ σ' G' H', Stt K β ρ σ' G' H' → Le G G' → D.bk σ' H'
  | .ct ρ => ∀ σ' G' H', Stt K β ρ σ' G' H' → Le G G' → D.ct σ' H'
  | .rt o ρ => ∀ v σ' G' H' T, SttD K β ρ σ' G' H' T → Le G G' → Or K G' H' v o T → T.Nodup → (∀ a ∈ T, (β.H a = none ∨ a ∈ β.io) ∧ G' a = none) → D.rt v H'
  | .rs c ρ => ∀ cv, mg c = some cv → ∀ σ' G' H', Stt K β ρ σ' G' H' → Le G G' → W cv none σ' H'
  | .st => False
def tS (K : KF) (mg : Mg) (W : WX) (β : Bt) (F : Ro → Rs) : TS := fun D σ H => ∃ ρ G, Stt K β ρ σ G H ∧ eS K mg W β G D (F ρ)
theorem eS.up {K : KF} {mg : Mg} {W : WX} {β : Bt} {G G' : Hp} {D : Ends} {r : Rs} (h : eS K mg W β G D r) (e : Le G G') : eS K mg W β G' D r := by
  cases r with
  | nx ρ => exact fun σ' G2 H' s l => h σ' G2 H' s (e.trans l)
  | bk ρ => exact fun σ' G2 H' s l => h σ' G2 H' s (e.trans l)
  | ct ρ => exact fun σ' G2 H' s l => h σ' G2 H' s (e.trans l)
  | rt o => exact fun v σ' G2 H' T b l => h v σ' G2 H' T b (e.trans l)
  | rs c ρ => exact fun cv q σ' G2 H' s l => h cv q σ' G2 H' s (e.trans l)
  | st => exact h
theorem PS.wk {X : Cx} {s : Stmt} {t t' : TS} (h : PS X s t) (k : ∀ D σ H, t' D σ H → t D σ H) : PS X s t' := ⟨fun pins s σ H D I q => h.run pins s σ H D I (k D σ H q)⟩
theorem PSs.wk {X : Cx} {s : List Stmt} {t t' : TS} (h : PSs X s t) (k : ∀ D σ H, t' D σ H → t D σ H) : PSs X s t' := ⟨fun pins s σ H D I q => h.run pins s σ H D I (k D σ H q)⟩
abbrev PF (X : Cx) (W : WX) (β : Bt) (s : Stmt) (F : Ro → Rs) : Prop := PS X s (tS X.K X.mg W β F)
abbrev PFs (X : Cx) (W : WX) (β : Bt) (s : List Stmt) (F : Ro → Rs) : Prop := PSs X s (tS X.K X.mg W β F)
/-- from an expression's end to a statement's -/
def Rz.then {α : Type} (r : Rz α) (ρ : Ro) (k : α → Rs) : Rs := match r with
  | .ok a => k a
  | .rs c => .rs c ρ
  | .st => .st
@[simp] theorem Rz.then_ok {α : Type} (a : α) (ρ : Ro) (k : α → Rs) : (Rz.ok a).then ρ k = k a := Eq.trans rfl rfl
@[simp] theorem Rz.then_rs {α : Type} (c : Str) (ρ : Ro) (k : α → Rs) : (Rz.rs c : Rz α).then ρ k = .rs c ρ := Eq.trans rfl rfl
@[simp] theorem Rz.then_st {α : Type} (ρ : Ro) (k : α → Rs) : (Rz.st : Rz α).then ρ k = .st := Eq.trans rfl rfl
section
variable {X : Cx} {W : WX} {a : Expr} {fa : Ro → Rz O} {bc : Ro → Rz Bool} {p : Bool} {pos : Pos}
theorem rs_then {K : KF} {mg : Mg} {β : Bt} {G H : Hp} {D : Ends} {ρ : Ro} {σ : L2.St} {c : Str} (s : Stt K β ρ σ G H) (h : eS K mg W β G D (.rs c ρ)) : rsW mg W σ G H c := fun cv q G' H' x => h cv q σ G' H' (s.up x) x.g

variable {β : Bt} {F F2 : Ro → Rs} {st : Stmt} {rest : List Stmt}
theorem pf_nil : PFs X W β [] (fun ρ => .nx ρ) := PSs.wk pss_nil fun D σ H ⟨ρ, G, s, h⟩ => h σ G H s Le.rfl'
def sSeq (F F2 : Ro → Rs) (ρ : Ro) : Rs := match F ρ with
  | .nx ρ' => F2 ρ'
  | r => r
theorem pf_cons (h1 : PF X W β st F) (h2 : PFs X W β rest F2) : PFs X W β (st :: rest) (sSeq F F2) := PSs.wk (pss_cons h1 h2) fun D σ H ⟨ρ, G, s, h⟩ => by
  refine ⟨ρ, G, s, ?_⟩
  unfold sSeq at h
  cases e : F ρ with
  | nx ρ' => rw [e] at h; exact fun σ' G' H' s' l => ⟨ρ', G', s', eS.up h l⟩
  | _ => rw [e] at h; exact h
theorem pf_pass : PF X W β (.Pass pos) (fun ρ => .nx ρ) := PS.wk ps_pass fun D σ H ⟨ρ, G, s, h⟩ => h σ G H s Le.rfl'
theorem pf_break : PF X W β (.Break pos) (fun ρ => .bk ρ) := PS.wk ps_break fun D σ H ⟨ρ, G, s, h⟩ => h σ G H s Le.rfl'
theorem pf_continue : PF X W β (.Continue pos) (fun ρ => .ct ρ) := PS.wk ps_continue fun D σ H ⟨ρ, G, s, h⟩ => h σ G H s Le.rfl'
/-- an expression whose value is dropped -/
def sEx (f : Ro → Rz O) (ρ : Ro) : Rs := (f ρ).then ρ fun _ => .nx ρ
theorem pf_ex (h : PQ X W p a fa) (hs : swapsWith a none pos.line X.env = pure false) : PF X W β (.Expr a pos) (sEx fa) := PS.wk (ps_expr h hs) fun D σ H ⟨ρ, G, s, hq⟩ => by
  obtain ⟨S, m, _⟩ := id s
  refine ⟨ρ, G, S, m, ?_⟩
  unfold sEx at hq
  cases e : fa ρ with
  | ok o => rw [e] at hq; exact fun v G' H' T x _ _ => hq σ G' H' (s.up x) x.g
  | rs c => rw [e] at hq; exact rs_then s hq
  | st => rw [e] at hq; exact hq
def sSet (i : Nat) (f : Ro → Rz O) (ρ : Ro) : Rs := (f ρ).then ρ fun o => if i < ρ.length then .nx (ρ.set i (some o)) else .st
/-- a thing that is apart is laid into a slot -/
theorem SttD.put {K : KF} {ρ : Ro} {σ : L2.St} {G H : Hp} {T : List Addr} (s : SttD K β ρ σ G H T) {i : Nat} (fr : Fr β i) (hi : i < ρ.length) {v : V} {o : O} (r : Or K G H v o T) (nd : T.Nodup) (f : ∀ a ∈ T, (β.H a = none ∨ a ∈ β.io) ∧ G a = none) :
    Stt K β (ρ.set i (some o)) (σ.set i (some v)) G H := by
  obtain ⟨S, m, b, ow, l, ap⟩ := s
  obtain ⟨S', R, h1, h2, h3⟩ := m.sl.put i r hi
  refine ⟨S', ⟨h1, h2.nodup_iff.mpr (List.nodup_append.mpr ⟨nd, m.nd.sublist h3, fun a ha b hb z => ?_⟩), fun a ha => ?_, m.le⟩, b, fun a ha => ?_, l.set fr _⟩
  · subst z
    exact ap a ha (h3.subset hb)
  · rcases List.mem_append.mp (h2.mem_iff.mp ha) with h | h
    · exact (f a h).2
    · exact m.out a (h3.subset h)
  · rcases List.mem_append.mp (h2.mem_iff.mp ha) with h | h
    · exact (f a h).1
    · exact ow a (h3.subset h)
/-- what is new is apart -/
theorem Stt.apart {K : KF} {ρ : Ro} {σ : L2.St} {G H G' H' : Hp} (s : Stt K β ρ σ G H) (x : Xt G H G' H') {T : List Addr} (f : ∀ a ∈ T, H a = none ∧ G' a = none) : SttD K β ρ σ G' H' T ∧ ∀ a ∈ T, (β.H a = none ∨ a ∈ β.io) ∧ G' a = none := by
  obtain ⟨S, m, b, ow, l⟩ := s
  refine ⟨⟨S, m.up x, b.up x, ow, l, fun a ha z => ?_⟩, fun a ha => ⟨.inl (b.fresh (f a ha).1), (f a ha).2⟩⟩
  obtain ⟨w, hw⟩ := m.sl.mem a z
  rw [(f a ha).1] at hw
  cases hw
/-- what is new is laid into a slot -/
theorem Stt.lay {K : KF} {ρ : Ro} {σ : L2.St} {G H G' H' : Hp} (s : Stt K β ρ σ G H) (x : Xt G H G' H') {i : Nat} (fr : Fr β i) (hi : i < ρ.length) {v : V} {o : O} {T : List Addr} (r : Or K G' H' v o T) (nd : T.Nodup) (f : ∀ a ∈ T, H a = none ∧ G' a = none) :
    Stt K β (ρ.set i (some o)) (σ.set i (some v)) G' H' := by
  obtain ⟨s', f'⟩ := s.apart x f
  exact s'.put fr hi r nd f'
theorem set_t {i : Nat} {K : KF} {mg : Mg} {D : Ends} {σ : L2.St} {H : Hp} (fr : Fr β i) (h : tS K mg W β (sSet i fa) D σ H) : tAsg (tO K mg W false fa) (gName i) D σ H := by
  obtain ⟨ρ, G, s, hq⟩ := h
  obtain ⟨S, m, _⟩ := id s
  refine ⟨ρ, G, S, m, ?_⟩
  unfold sSet at hq
  cases e : fa ρ with
  | ok o =>
    rw [e] at hq
    intro v G' H' T x r f
    have hq : eS K mg W β G D (if i < ρ.length then .nx (ρ.set i (some o)) else .st) := hq
    split at hq
    · next hi => exact hq _ G' H' (s.lay x fr hi r (f rfl).1 (f rfl).2) x.g
    · exact hq.elim
  | rs c => rw [e] at hq; exact rs_then s hq
  | st => rw [e] at hq; exact hq
theorem pf_set {i : Nat} {x : Str} {px : Pos} (fr : Fr β i) (hN : X.N.Nodup) (hi : X.N[i]? = some x) (hx : Loc X.env.scope x) (he : PQ X W false a fa) (hs : swapsWith a (some (.Name x px)) pos.line X.env = pure false) (hf : X.fn x = true ∨ X.env.scope.names.lookup x = some .local) :
    PF X W β (.Assign [.Name x px] a pos) (sSet i fa) := PS.wk (ps_set hN hi hx he hs hf) fun _ _ _ h => set_t fr h
theorem pf_setLc {tg iter elt : Expr} {ifs : List Expr} {scope : Scope} {own : List (Str × Nat)} {fi : Ro → Rz (List D)} {fe : Ro → Rz O} {i : Nat} {y : Str} {py spos : Pos} {t : Tg} (fr : Fr β i) (hc : X.calm = true) (hN : X.N.Nodup) (hy : X.N[i]? = some y) (hyl : X.env.scope.names.lookup y = some .local)
    (hsw : swapsWith (.ListComp elt [⟨tg, iter, ifs, 0⟩] scope pos) (some (.Name y py)) spos.line X.env = pure true) (hi : PIt X W true tg iter fi) (ok : BlkOk X.N X.env.scope scope own) (ht : own.map (·.2) = t.is)
    (hg : ∀ (s : Shared) (H : Hp) (C : Addr) (cl : List (Str × Addr)) (fp : List Addr), PG (X.blk s H scope (compEnvC scope cl C X.env) fp) tg (gT X.K t))
    (hb : ∀ (s : Shared) (H : Hp) (C : Addr) (cl : List (Str × Addr)) (fp : List Addr), PBs (X.blk s H scope (compEnvC scope cl C X.env) fp) W0 ifs bc)
    (he : ∀ (s : Shared) (H : Hp) (C : Addr) (cl : List (Str × Addr)) (fp : List Addr), PQ (X.blk s H scope (compEnvC scope cl C X.env) fp) W0 false elt fe) (hs : ∀ x, foldedSetIterable iter X.env x = pure x) :
    PF X W β (.Assign [.Name y py] (.ListComp elt [⟨tg, iter, ifs, 0⟩] scope pos) spos) (sSet i (oLc t bc fe fi)) := PS.wk (ps_setLc (tt := tT X.K X.mg W0 bc) (te := tO X.K X.mg W0 false fe) hc hN hy hyl hsw hi ok hg (fun s H C cl fp => hb s H C cl fp) (fun s H C cl fp => he s H C cl fp) hs) fun D σ H h => by
  have h := set_t fr h
  show tLc _ _ _ _ _ σ H _
  rw [ht]
  exact lc_t h
/-- return -/
def sRet (f : Ro → Rz O) (ρ : Ro) : Rs := (f ρ).then ρ fun o => .rt o ρ
theorem pf_ret (h : PQ X W false a fa) : PF X W β (.Return (some a) pos) (sRet fa) := PS.wk (ps_ret h) fun D σ H ⟨ρ, G, s, hq⟩ => by
  obtain ⟨S, m, _⟩ := id s
  refine ⟨ρ, G, S, m, ?_⟩
  unfold sRet at hq
  cases e : fa ρ with
  | ok o =>
    rw [e] at hq
    intro v G' H' T x r f
    obtain ⟨s', f'⟩ := s.apart x (f rfl).2
    exact hq v σ G' H' T s' x.g r (f rfl).1 f'
  | rs c => rw [e] at hq; exact rs_then s hq
  | st => rw [e] at hq; exact hq
/-- a slot is left: its thing, the others -/
theorem Sl.mov {K : KF} {G H : Hp} : ∀ {ρ : Ro} {σ : L2.St} {S : List Addr} {i : Nat} {o : O}, Sl K G H ρ σ S → ρ[i]? = some (some o) → ∃ v T R, σ[i]? = some (some v) ∧ Or K G H v o T ∧ S.Perm (T ++ R) ∧ Sl K G H (ρ.set i none) σ R
  | _, _, _, _, _, .nil, e => by simp at e
  | _, _, _, 0, _, .no h, e => by simp at e
  | _, _, _, 0, _, @Sl.so _ _ _ _ _ S T _ _ h1 h2, e => by
    simp at e
    subst e
    exact ⟨_, T, S, rfl, h1, .refl _, .no h2⟩
  | _, _, _, i + 1, o, .no h, e => by
    obtain ⟨v, T, R, h1, h2, h3, h4⟩ := Sl.mov (i := i) (o := o) h (by simpa using e)
    exact ⟨v, T, R, by simpa using h1, h2, h3, .no h4⟩
  | _, _, _, i + 1, o, @Sl.so _ _ _ _ _ S0 T0 _ _ g1 g2, e => by
    obtain ⟨v, T, R, h1, h2, h3, h4⟩ := Sl.mov (i := i) (o := o) g2 (by simpa using e)
    exact ⟨v, T, T0 ++ R, by simpa using h1, h2, (List.Perm.append_left T0 h3).trans (perm3 _ _ _), .so g1 h4⟩
/-- return of a name: what stands there is given over -/
def sRetV (i : Nat) (ρ : Ro) : Rs := match ρ[i]? with
  | some (some (.fz d)) => .rt (.fz d) ρ
  | some (some o) => .rt o (ρ.set i none)
  | _ => .st
theorem pf_retV {i : Nat} {x : Str} {px : Pos} (hN : X.N[i]? = some x) (hv : Vis X.env.scope x) (hd : (x == ("__debug__" : Str)) = false) (hcd : (x == ("__classdict__" : Str)) = false) :
    PF X W β (.Return (some (.Name x px)) pos) (sRetV i) := PS.wk (ps_ret (pe_var hN hv hd hcd)) fun D σ H ⟨ρ, G, s, hq⟩ => by
  obtain ⟨S, m, b, ow, l⟩ := id s
  unfold sRetV at hq
  have gen : ∀ o, ρ[i]? = some (some o) → eS X.K X.mg W β G D (.rt o (ρ.set i none)) → tVar i σ H D.rt := fun o e hq => by
    obtain ⟨v, T, R, h1, h2, h3, h4⟩ := m.sl.mov e
    have nd := List.nodup_append.mp (h3.nodup_iff.mp m.nd)
    have inT : ∀ a ∈ T, a ∈ S := fun a ha => h3.mem_iff.mpr (List.mem_append_left _ ha)
    have inR : ∀ a ∈ R, a ∈ S := fun a ha => h3.mem_iff.mpr (List.mem_append_right _ ha)
    exact ⟨v, h1, hq v σ G H T ⟨R, ⟨h4, nd.2.1, fun a ha => m.out a (inR a ha), m.le⟩, b, fun a ha => ow a (inR a ha), l, fun a ha z => nd.2.2 a ha a z rfl⟩ Le.rfl' h2 nd.1 fun a ha => ⟨ow a (inT a ha), m.out a (inT a ha)⟩⟩
  split at hq
  · next d e =>
    obtain ⟨v, T, h1, h2, _⟩ := m.sl.get e
    cases h2 with
    | fz r => exact ⟨v, h1, hq v σ G H [] ⟨S, m, b, ow, l, fun a ha => absurd ha (by simp)⟩ Le.rfl' (.fz r) .nil fun a ha => absurd ha (by simp)⟩
  · next o _ e => exact gen o e hq
  · exact hq.elim
theorem pf_retN : PF X W β (.Return none pos) (fun ρ => .rt (.fz .none) ρ) := PS.wk ps_retN fun D σ H ⟨ρ, G, s, hq⟩ => by
  obtain ⟨S, m, b, ow, l⟩ := s
  exact hq .non σ G H [] ⟨S, m, b, ow, l, fun a ha => absurd ha (by simp)⟩ Le.rfl' (.fz .non) .nil fun a ha => absurd ha (by simp)
def sIf (c : Ro → Rz Bool) (F F2 : Ro → Rs) (ρ : Ro) : Rs := (c ρ).then ρ fun b => match b with | true => F ρ | false => F2 ρ
theorem pf_if {c : Expr} {l1 l2 : List Stmt} (hc : PB X W c bc) (h1 : PFs X W β l1 F) (h2 : PFs X W β l2 F2) : PF X W β (.If c l1 l2 pos) (sIf bc F F2) := PS.wk (ps_if hc h1 h2) fun D σ H ⟨ρ, G, s, hq⟩ => by
  obtain ⟨S, m, _⟩ := id s
  refine ⟨ρ, G, S, m, ?_⟩
  unfold sIf at hq
  cases e : bc ρ with
  | ok k =>
    rw [e] at hq
    intro G' H' x
    cases k with
    | true => exact iteT ⟨ρ, G', s.up x, eS.up hq x.g⟩
    | false => exact iteF ⟨ρ, G', s.up x, eS.up hq x.g⟩
  | rs c => rw [e] at hq; exact rs_then s hq
  | st => rw [e] at hq; exact hq
/-- raise X('..') -/
theorem pf_raise {C : Addr} {bmB : List Value} {B newId initId : String} {x m : Str} {j : Nat} {pn p2 p3 : Pos} (hc : X.calm = true) (tk : Takes X W) (hF : ExcBaseFacts B newId initId bmB) (q : PySem.W.excIn X.K C bmB newId = true) (gC : X.mg x = some (.ref C))
    (kC : PySem.W.keepIn X.K (.ref C) = true) (r : Raises X (.ref C)) (hg : Gl X x) (hdb : (x == ("__debug__" : Str)) = false) :
    PF X W β (.Raise (some (.Call (.Name x pn) [.Constant (.str m) j p2] [] p3)) none pos) (fun ρ => .rs x ρ) := PS.wk (ps_raise hc tk (pmk_own hF q gC kC r hg hdb)) fun D σ H ⟨ρ, G, s, hq⟩ => hq _ gC σ G H s Le.rfl'
end
end Mw
/-! Ms3: loops, giving away. -/
namespace Mw
open PySem PySem.Spec PyProof.Rows L2

def forL (t : Tg) (B : Ro → Rs) : List D → Ro → Rs
  | [], ρ => .nx ρ
  | d :: ds, ρ => match setT t ρ d with
    | none => .st
    | some ρ1 => match B ρ1 with
      | .nx ρ' => forL t B ds ρ'
      | .ct ρ' => forL t B ds ρ'
      | .bk ρ' => .nx ρ'
      | .rt o ρ' => .rt o ρ'
      | .rs c ρ' => .rs c ρ'
      | .st => .st
def sFor (t : Tg) (it : Ro → Rz (List D)) (B : Ro → Rs) (ρ : Ro) : Rs := (it ρ).then ρ fun ds => forL t B ds ρ
def whlL (c : Ro → Rz Bool) (B : Ro → Rs) : Nat → Ro → Rs
  | 0, _ => .st
  | n + 1, ρ => (c ρ).then ρ fun b => match b with
    | false => .nx ρ
    | true => match B ρ with
      | .nx ρ' => whlL c B n ρ'
      | .ct ρ' => whlL c B n ρ'
      | .bk ρ' => .nx ρ'
      | .rt o ρ' => .rt o ρ'
      | .rs c ρ' => .rs c ρ'
      | .st => .st
theorem wipe_out {σ : L2.St} {i : Nat} : ∀ {is : List Nat}, i ∉ is → (L2.wipe σ is)[i]? = σ[i]?
  | [], _ => rfl
  | j :: is, h => by
    simp only [L2.wipe]
    rw [List.getElem?_set_ne fun e => h (by rw [e]; exact List.mem_cons_self)]
    exact wipe_out fun z => h (List.mem_cons_of_mem _ z)
section
variable {X : Cx} {W : WX} {tg iter a : Expr} {body : List Stmt} {pos : Pos} {fi : Ro → Rz (List D)} {bc : Ro → Rz Bool} {fa : Ro → Rz O} {p : Bool} {β : Bt} {F : Ro → Rs}
theorem Lv.wip {σ σ' : L2.St} {t : Tg} (l : Lv β σ) (fr : ∀ i ∈ t.is, Fr β i) (w : L2.wipe σ' t.is = L2.wipe σ t.is) : Lv β σ' := l.same fun i hi => by
  have hn : i ∉ t.is := fun z => fr i z hi
  rw [← wipe_out (σ := σ') hn, w, wipe_out hn]
theorem pf_for {t : Tg} (fr : ∀ i ∈ t.is, Fr β i) (hp : PassesOwn (model X.prog X.w) X.A X.env X.xe) (hc : X.calm = true) (hi : PIt X W false tg iter fi) (hg : PG X tg (gT X.K t)) (hb : PFs X W β body F) (hs : ∀ x, foldedSetIterable iter X.env x = pure x) :
    PF X W β (.For tg iter body [] pos) (sFor t fi F) := PS.wk (ps_for hp hc hi hg hb hs) fun D σ H ⟨ρ, G, s, hq⟩ => by
  obtain ⟨S, m, _⟩ := id s
  refine ⟨ρ, G, S, m, ?_⟩
  unfold sFor at hq
  cases e : fi ρ with
  | rs c => rw [e] at hq; exact rs_then s hq
  | st => rw [e] at hq; exact hq.elim
  | ok ds =>
    rw [e] at hq
    have hq : eS X.K X.mg W β G D (forL t F ds ρ) := hq
    intro J G1 H1 Gd Y x1 wk hgd hy
    refine for_it wk (fun i σ2 H2 => ∃ ρ2 G2, Stt X.K β ρ2 σ2 G2 H2 ∧ Le G1 G2 ∧ eS X.K X.mg W β G1 D (forL t F (ds.drop i) ρ2)) ⟨ρ, G1, s.up x1, Le.rfl', eS.up hq x1.g⟩ ?_ ?_ ?_
    · rintro i σ2 H2 _ ⟨ρ2, G2, ⟨S2, m2, _⟩, l2, _⟩
      exact hgd H2 (l2.trans m2.le)
    · rintro i x σ2 H2 H3 hlt ⟨ρ2, G2, s2, l2, h2⟩ y
      obtain ⟨S2, m2, b2, o2, lv2⟩ := id s2
      obtain ⟨G3, d, x3, hd, r⟩ := hy i H2 x H3 G2 hlt (hgd H2 (l2.trans m2.le)) y l2 m2.le
      have hdr : ds.drop i = d :: ds.drop (i + 1) := by
        obtain ⟨hlt, hd⟩ := List.getElem?_eq_some_iff.mp hd
        rw [List.drop_eq_getElem_cons hlt, hd]
      rw [hdr] at h2
      unfold forL at h2
      split at h2
      · exact h2.elim
      · next ρ3 hset =>
        refine tg_ok (m2.up x3) r hset fun σ4 S4 m4 sub hw => ⟨ρ3, G3, ⟨S4, m4, b2.up x3, fun a ha => o2 a (sub a ha), Lv.wip lv2 fr hw⟩, ?_⟩
        have l3 : Le G1 G3 := l2.trans x3.g
        cases eb : F ρ3 with
        | nx ρ' => rw [eb] at h2; exact fun σ5 G5 H5 s5 l5 => ⟨ρ', G5, s5, l3.trans l5, h2⟩
        | ct ρ' => rw [eb] at h2; exact fun σ5 G5 H5 s5 l5 => ⟨ρ', G5, s5, l3.trans l5, h2⟩
        | bk ρ' => rw [eb] at h2; exact fun σ5 G5 H5 s5 l5 => h2 σ5 G5 H5 s5 (l3.trans l5)
        | rt o ρ' => rw [eb] at h2; exact eS.up h2 l3
        | rs c ρ' => rw [eb] at h2; exact eS.up h2 l3
        | st => rw [eb] at h2; exact h2.elim
    · rintro σ2 H2 ⟨ρ2, G2, s2, l2, h2⟩
      rw [List.drop_length] at h2
      exact h2 σ2 G2 H2 s2 l2
theorem pf_while {n : Nat} (hp : PassesOwn (model X.prog X.w) X.A X.env X.xe) (hc : PB X W a bc) (hb : PFs X W β body F) : PF X W β (.While a body [] pos) (whlL bc F n) := PS.wk (ps_while hp hc hb) fun D σ H ⟨ρ, G, s, hq⟩ => by
  refine ⟨fun m σ2 H2 => ∃ ρ2 G2, Stt X.K β ρ2 σ2 G2 H2 ∧ Le G G2 ∧ eS X.K X.mg W β G D (whlL bc F m ρ2), ⟨n, ρ, G, s, Le.rfl', hq⟩, ?_⟩
  rintro m σ2 H2 ⟨ρ2, G2, s2, l2, h2⟩
  obtain ⟨S2, m2, _⟩ := id s2
  refine ⟨ρ2, G2, S2, m2, ?_⟩
  cases m with
  | zero => exact h2.elim
  | succ m =>
    unfold whlL at h2
    cases e : bc ρ2 with
    | rs c => rw [e] at h2; exact rs_then s2 (eS.up h2 l2)
    | st => rw [e] at h2; exact h2.elim
    | ok b =>
      rw [e] at h2
      intro G3 H3 x3
      cases b with
      | false => exact iteF (h2 σ2 G3 H3 (s2.up x3) (l2.trans x3.g))
      | true =>
        refine iteT ⟨fun σ5 H5 => ∃ ρ5 G5, Stt X.K β ρ5 σ5 G5 H5 ∧ Le G G5 ∧ eS X.K X.mg W β G D (whlL bc F m ρ5), fun σ5 H5 h5 => ⟨m, Nat.lt_succ_self m, h5⟩, ρ2, G3, s2.up x3, ?_⟩
        have l3 : Le G G3 := l2.trans x3.g
        have h2 : eS X.K X.mg W β G D (match F ρ2 with
          | .nx ρ' => whlL bc F m ρ'
          | .ct ρ' => whlL bc F m ρ'
          | .bk ρ' => .nx ρ'
          | .rt o ρ' => .rt o ρ'
          | .rs c ρ' => .rs c ρ'
          | .st => .st) := h2
        cases eb : F ρ2 with
        | nx ρ' => rw [eb] at h2; exact fun σ5 G5 H5 s5 l5 => ⟨ρ', G5, s5, l3.trans l5, h2⟩
        | ct ρ' => rw [eb] at h2; exact fun σ5 G5 H5 s5 l5 => ⟨ρ', G5, s5, l3.trans l5, h2⟩
        | bk ρ' => rw [eb] at h2; exact fun σ5 G5 H5 s5 l5 => h2 σ5 G5 H5 s5 (l3.trans l5)
        | rt o ρ' => rw [eb] at h2; exact eS.up h2 l3
        | rs c ρ' => rw [eb] at h2; exact eS.up h2 l3
        | st => rw [eb] at h2; exact h2.elim
/-- what stands in a slot is given away -/
def givR (i : Nat) (ρ : Ro) : Ro := match ρ[i]? with
  | some (some o) => ρ.set i (some (.fz o.d))
  | _ => ρ
theorem giv_out {G H : Hp} {T : List Addr} {a : Addr} (h : a ∉ T) : giv G H T a = G a := by
  unfold giv
  rw [if_neg h]
theorem Stt.give {K : KF} {ρ : Ro} {σ : L2.St} {G H : Hp} (s : Stt K β ρ σ G H) (i : Nat) : ∃ G', Stt K β (givR i ρ) σ G' H ∧ Le G G' := by
  obtain ⟨S, m, b, ow, lv⟩ := id s
  unfold givR
  split
  · next o e =>
    obtain ⟨v, T, R, h1, h2, h3, h4⟩ := m.sl.foc e
    have hi : i < ρ.length := (List.getElem?_eq_some_iff.mp e).1
    have inS : ∀ a ∈ T, a ∈ S := fun a ha => h3.mem_iff.mpr (List.mem_append_left _ ha)
    have nd := h3.nodup_iff.mp m.nd
    have r := Or.give m.le T o v T (fun _ h => h) h2
    have lG := giv_le m.le T
    obtain ⟨S', k1, k2⟩ := h4 (giv G H T) H (.fz o.d) v [] lG (fun a _ x q => q) (.fz r)
    have hσ : σ.set i (some v) = σ := by
      apply List.ext_getElem?
      intro k
      by_cases hk : i = k
      · subst hk
        rw [List.getElem?_set_self (by rw [← m.sl.length]; exact hi), h1]
      · rw [List.getElem?_set_ne hk]
    rw [hσ] at k1
    have k2 : S'.Perm R := by simpa using k2
    refine ⟨giv G H T, ⟨S', ⟨k1, k2.nodup_iff.mpr (List.nodup_append.mp nd).2.1, fun a ha => ?_, giv_sub m.le T⟩, ⟨b.g.trans lG, b.h, b.d, fun a ha => ?_⟩, fun a ha => ow a (h3.mem_iff.mpr (List.mem_append_right _ (k2.mem_iff.mp ha))), lv⟩, lG⟩
    · have hR := k2.mem_iff.mp ha
      rw [giv_out fun z => (List.nodup_append.mp nd).2.2 a z a hR rfl]
      exact m.out a (h3.mem_iff.mpr (List.mem_append_right _ hR))
    · by_cases z : a ∈ T
      · exact .inl ((ow a (inS a z)).elim (fun q => (ha q).elim) id)
      · rw [giv_out z]
        exact b.n a ha
  · exact ⟨G, s, Le.rfl'⟩
end
end Mw
/-! Ms4: what changes a list in its place. -/
namespace Mw
open PySem PySem.Spec PyProof.Rows L2

theorem ne_mem {a b : Addr} {S : List Addr} (n : a ∉ S) (h : b ∈ S) : b ≠ a := fun z => n (by rw [← z]; exact h)
section
variable {K : KF} {β : Bt} {ρ : Ro} {σ : L2.St} {G H G' H' : Hp}
theorem OrA.upA {a : Addr} {u : HO} {vs : List V} {os : List O} {S : List Addr} (h : OrA K G H vs os S) (n : a ∉ S) : OrA K G (upd H a u) vs os S :=
  OrA.up' Le.rfl' _ _ _ (fun b hb x q => by rw [upd_ne (ne_mem n hb)]; exact q) h
theorem Or.upA {a : Addr} {u : HO} {v : V} {o : O} {S : List Addr} (h : Or K G H v o S) (n : a ∉ S) : Or K G (upd H a u) v o S :=
  Or.up' Le.rfl' _ _ _ (fun b hb x q => by rw [upd_ne (ne_mem n hb)]; exact q) h
/-- a list at a path is changed: T is new, P is what is taken out -/
theorem Stt.mut (s : Stt K β ρ σ G H) (x : Xt G H G' H') {i : Nat} {o : O} {js : List Nat} {os : List O} (e : ρ[i]? = some (some o)) (hj : subO o js = some (.ol os)) :
    ∃ v0 a vs S1, σ[i]? = some (some v0) ∧ walkV H' v0 js = some (.ref a) ∧ H' a = some (.lst vs) ∧ OrA K G' H' vs os S1 ∧ a ∉ S1 ∧ S1.Nodup ∧ H a ≠ none ∧ (∀ b ∈ S1, H b ≠ none) ∧
    ∀ (T : List Addr) (vs' : List V) (os' : List O) (S1' P : List Addr), T.Nodup → (∀ b ∈ T, H b = none ∧ G' b = none) → OrA K G' (upd H' a (.lst vs')) vs' os' S1' → Sbp (S1' ++ P) (S1 ++ T) →
      SttD K β (ρ.set i (some (putO o js (.ol os')))) σ G' (upd H' a (.lst vs')) P ∧ P.Nodup ∧ (∀ b ∈ P, (β.H b = none ∨ b ∈ β.io) ∧ G' b = none ∧ b ≠ a) := by
  obtain ⟨S, m, b, ow, lv⟩ := s
  obtain ⟨v0, v1, T0, R, k1, k2, k3, k4, k5⟩ := (m.up x).sl.focP e hj
  cases k3 with
  | @ol a vs _ S1 g1 g2 =>
    have ndS := k4.nodup_iff.mp m.nd
    have ndS' : (a :: (S1 ++ R)).Nodup := ndS
    have inS : ∀ c ∈ a :: (S1 ++ R), c ∈ S := fun c hc => k4.mem_iff.mpr hc
    have nd1 := List.nodup_cons.mp ndS'
    have nd2 := List.nodup_append.mp nd1.2
    have trk : ∀ c ∈ S, H c ≠ none := fun c hc => by
      obtain ⟨z, hz⟩ := m.sl.mem c hc
      rw [hz]
      exact fun q => nomatch q
    refine ⟨v0, a, vs, S1, k1, k2, g1, g2, fun z => nd1.1 (List.mem_append_left _ z), nd2.1, trk a (inS a List.mem_cons_self), fun c hc => trk c (inS c (List.mem_cons_of_mem _ (List.mem_append_left _ hc))), fun T vs' os' S1' P nT fT r sb => ?_⟩
    have aS : a ∈ S := inS a List.mem_cons_self
    have outS := (m.up x).out
    obtain ⟨S2, q1, q2⟩ := k5 G' (upd H' a (.lst vs')) (.ol os') (a :: S1') Le.rfl' (fun c hc y q => by rw [upd_ne (ne_mem (fun z => nd1.1 (List.mem_append_right _ z)) hc)]; exact q) (.ol upd_same r)
    -- all that is one's own now, with P
    have ndT : ((S1 ++ T) ++ (a :: R)).Nodup := by
      refine List.nodup_append.mpr ⟨List.nodup_append.mpr ⟨nd2.1, nT, fun c hc d hd z => ?_⟩, List.nodup_cons.mpr ⟨fun z => nd1.1 (List.mem_append_right _ z), nd2.2.1⟩, fun c hc d hd z => ?_⟩
      · subst z
        exact trk c (inS c (List.mem_cons_of_mem _ (List.mem_append_left _ hc))) (fT c hd).1
      · subst z
        rcases List.mem_append.mp hc with hc | hc
        · rcases List.mem_cons.mp hd with h | h
          · subst h; exact nd1.1 (List.mem_append_left _ hc)
          · exact nd2.2.2 c hc c h rfl
        · refine trk c (inS c ?_) (fT c hc).1
          rcases List.mem_cons.mp hd with h | h
          · subst h; exact List.mem_cons_self
          · exact List.mem_cons_of_mem _ (List.mem_append_right _ h)
    have ndA := (sb.append (Sbp.refl (a :: R))).nodup ndT
    have nA := List.nodup_append.mp ndA
    have nP := List.nodup_append.mp nA.1
    have aW : ∀ c ∈ S1 ++ T, (β.H c = none ∨ c ∈ β.io) ∧ G' c = none ∧ c ≠ a := fun c hc => by
      rcases List.mem_append.mp hc with h | h
      · have hS := inS c (List.mem_cons_of_mem _ (List.mem_append_left _ h))
        exact ⟨ow c hS, outS c hS, ne_mem (fun z => nd1.1 (List.mem_append_left _ z)) h⟩
      · refine ⟨.inl (b.fresh (fT c h).1), (fT c h).2, fun z => ?_⟩
        subst z
        exact trk c aS (fT c h).1
    have inA : ∀ c ∈ S2, c ∈ S1' ∨ c ∈ a :: R := fun c hc => by
      rcases List.mem_append.mp (q2.mem_iff.mp hc) with h | h
      · rcases List.mem_cons.mp h with h | h
        · subst h; exact .inr List.mem_cons_self
        · exact .inl h
      · exact .inr (List.mem_cons_of_mem _ h)
    have all : ∀ c ∈ S2, (β.H c = none ∨ c ∈ β.io) ∧ G' c = none := fun c hc => by
      rcases inA c hc with h | h
      · have := aW c (sb.mem (List.mem_append_left _ h))
        exact ⟨this.1, this.2.1⟩
      · have hS : c ∈ S := inS c (by
          rcases List.mem_cons.mp h with h | h
          · subst h; exact List.mem_cons_self
          · exact List.mem_cons_of_mem _ (List.mem_append_right _ h))
        exact ⟨ow c hS, outS c hS⟩
    refine ⟨⟨S2, ⟨q1, ?_, fun c hc => (all c hc).2, fun c y q => ?_⟩, ⟨(b.up x).g, fun c y q => ?_, fun c q => ?_, (b.up x).n⟩, fun c hc => (all c hc).1, lv, fun c hc z => ?_⟩, nP.2.1, fun c hc => aW c (sb.mem (List.mem_append_right _ hc))⟩
    · refine q2.nodup_iff.mpr (List.nodup_append.mpr ⟨List.nodup_cons.mpr ⟨fun z => nA.2.2 a (List.mem_append_left _ z) a List.mem_cons_self rfl, nP.1⟩, nd2.2.1, fun c hc d hd z => ?_⟩)
      subst z
      rcases List.mem_cons.mp hc with h | h
      · subst h; exact nd1.1 (List.mem_append_right _ hd)
      · exact nA.2.2 c (List.mem_append_left _ h) c (List.mem_cons_of_mem _ hd) rfl
    · have : c ≠ a := fun z => by rw [z, outS a aS] at q; cases q
      rw [upd_ne this]
      exact x.s c y q
    · by_cases z : c = a
      · subst z
        rcases ow c aS with h | h
        · rw [h] at q; cases q
        · exact .inl h
      · rw [upd_ne z]
        exact (b.up x).h c y q
    · by_cases z : c = a
      · subst z; rw [upd_same]; exact fun q => nomatch q
      · rw [upd_ne z]; exact (b.up x).d c q
    · rcases inA c z with h | h
      · exact nP.2.2 c h c hc rfl
      · exact nA.2.2 c (List.mem_append_right _ hc) c h rfl
theorem SttD.stt {T : List Addr} (s : SttD K β ρ σ G H T) : Stt K β ρ σ G H :=
  let ⟨S, m, b, ow, l, _⟩ := s
  ⟨S, m, b, ow, l⟩
end

/-! ### lists of things -/
section
variable {K : KF} {G H : Hp}
theorem OrA.app : ∀ {vs ws : List V} {os ys : List O} {S T : List Addr}, OrA K G H vs os S → OrA K G H ws ys T → OrA K G H (vs ++ ws) (os ++ ys) (S ++ T)
  | _, _, _, _, _, _, .nil, r => r
  | _, _, _, _, _, _, .cons h t, r => by
    rw [List.append_assoc]
    exact .cons h (OrA.app t r)
/-- cut in two -/
theorem OrA.cut : ∀ {vs : List V} {os : List O} {S : List Addr} (n : Nat), OrA K G H vs os S → ∃ A B, S = A ++ B ∧ OrA K G H (vs.take n) (os.take n) A ∧ OrA K G H (vs.drop n) (os.drop n) B
  | _, _, _, 0, r => ⟨[], _, rfl, by simpa using OrA.nil, by simpa using r⟩
  | _, _, _, n + 1, .nil => ⟨[], [], rfl, .nil, .nil⟩
  | _, _, _, n + 1, .cons h t => by
    obtain ⟨A, B, rfl, h1, h2⟩ := OrA.cut n t
    exact ⟨_ ++ A, B, by rw [List.append_assoc], .cons h h1, h2⟩
theorem OrA.rev : ∀ {vs : List V} {os : List O} {S : List Addr}, OrA K G H vs os S → ∃ S', OrA K G H vs.reverse os.reverse S' ∧ S'.Perm S
  | _, _, _, .nil => ⟨[], .nil, .refl _⟩
  | _, _, _, @OrA.cons _ _ _ _ _ _ _ S T h t => by
    obtain ⟨S', h1, h2⟩ := OrA.rev t
    refine ⟨S' ++ S, ?_, (h2.append_right S).trans List.perm_append_comm⟩
    rw [List.reverse_cons, List.reverse_cons]
    have := h1.app (.cons h .nil)
    rwa [List.append_nil] at this
theorem OrA.setAt {w : V} {y : O} {T : List Addr} : ∀ {vs : List V} {os : List O} {S : List Addr} (j : Nat), OrA K G H vs os S → Or K G H w y T → j < os.length → ∃ S', OrA K G H (vs.set j w) (os.set j y) S' ∧ Sbp S' (S ++ T)
  | _, _, _, j, .nil, _, l => absurd l (by simp)
  | _, _, _, 0, @OrA.cons _ _ _ _ _ _ _ S0 T0 h t, r, _ => ⟨T ++ T0, .cons r t, ⟨T0 ++ T, List.perm_append_comm, by rw [List.append_assoc]; exact List.sublist_append_right _ _⟩⟩
  | _, _, _, j + 1, @OrA.cons _ _ _ _ _ _ _ S0 T0 h t, r, l => by
    obtain ⟨S', h1, h2⟩ := OrA.setAt j t r (by simpa using l)
    exact ⟨S0 ++ S', .cons h h1, by rw [List.append_assoc]; exact (Sbp.refl S0).append h2⟩
theorem OrA.last : ∀ {vs : List V} {os : List O} {S : List Addr} {y : O}, OrA K G H vs os S → os.getLast? = some y → ∃ w A B, vs[vs.length - 1]? = some w ∧ S = A ++ B ∧ OrA K G H vs.dropLast os.dropLast A ∧ Or K G H w y B
  | _, _, _, _, .nil, e => by simp at e
  | _, _, _, _, @OrA.cons _ _ _ v _ _ _ S _ h .nil, e => by
    simp at e
    subst e
    exact ⟨v, [], S, rfl, by simp, .nil, h⟩
  | _, _, _, y, @OrA.cons _ _ _ v _ _ _ S _ h (@OrA.cons _ _ _ v2 vs2 o2 os2 S2 T2 h2 t2), e => by
    obtain ⟨w, A, B, k1, k2, k3, k4⟩ := OrA.last (y := y) (OrA.cons h2 t2) (by simpa using e)
    refine ⟨w, S ++ A, B, ?_, by rw [k2, List.append_assoc], .cons h k3, k4⟩
    simpa using k1
end

/-! ### statements -/
/-- p.name(..): what stands at the path is changed by m -/
def sMut (f : Ro → Rz (Nat × List Nat)) (g : Ro → Rz (List O)) (m : List O → List O → Option (List O)) (ρ : Ro) : Rs := (f ρ).then ρ fun p => match ρ[p.1]? with
  | some (some o) => match subO o p.2 with
    | some (.ol os) => (g ρ).then ρ fun ys => match m os ys with
      | some os' => .nx (ρ.set p.1 (some (putO o p.2 (.ol os'))))
      | none => .st
    | _ => .st
  | _ => .st
def mApp (os : List O) : List O → Option (List O)
  | [y] => if os.length < sizeLine then some (os ++ [y]) else none
  | _ => none
def mIns (os : List O) : List O → Option (List O)
  | [.fz (.int i), y] => if os.length < sizeLine ∧ 0 ≤ i ∧ i < 2 ^ 63 then some (os.take i.toNat ++ [y] ++ os.drop i.toNat) else none
  | _ => none
def mRev (os : List O) : List O → Option (List O)
  | [] => some os.reverse
  | _ => none
def mClr (_ : List O) : List O → Option (List O)
  | [] => some []
  | _ => none
/-- the method id does what m says -/
def MutOk (X : Cx) (id : String) (m : List O → List O → Option (List O)) : Prop :=
  ∃ r, MtR X id r ∧ ∀ (K : KF) (G H : Hp) (a : Addr) (vs : List V) (os os' : List O) (S1 : List Addr) (ws : List V) (ys : List O) (T : List Addr), m os ys = some os' → H a = some (.lst vs) → OrA K G H vs os S1 → OrA K G H ws ys T → a ∉ S1 → a ∉ T →
    ∃ vs' S1', OrA K G (upd H a (.lst vs')) vs' os' S1' ∧ Sbp S1' (S1 ++ T) ∧ ∀ Q : VK, Q .non (upd H a (.lst vs')) → r (.ref a) ws H Q
section
variable {X : Cx}
theorem mut_app : MutOk X "list.append" mApp := by
  refine ⟨rAppend, mt_append, fun K G H a vs os os' S1 ws ys T hm hH h1 h2 n1 n2 => ?_⟩
  unfold mApp at hm
  split at hm
  · next y =>
    split at hm
    · next hl =>
      cases hm
      cases h2 with
      | @cons w _ _ _ B C hw hn =>
        cases hn
        rw [List.append_nil] at n2
        refine ⟨vs ++ [w], S1 ++ B, orA_snoc (h1.upA n1) (hw.upA n2), by rw [List.append_nil]; exact .refl _, fun Q q => ⟨a, vs, w, rfl, rfl, hH, by rw [h1.length]; exact hl, q⟩⟩
    · cases hm
  · cases hm
theorem mut_ins : MutOk X "list.insert" mIns := by
  refine ⟨_, mt_insert, fun K G H a vs os os' S1 ws ys T hm hH h1 h2 n1 n2 => ?_⟩
  unfold mIns at hm
  split at hm
  · next i y =>
    split at hm
    · next hl =>
      cases hm
      cases h2 with
      | @cons w _ _ _ B C hw hn =>
        cases hn with
        | @cons w2 _ _ _ B2 C2 hw2 hn2 =>
          cases hn2
          have ew := hw.int
          subst ew
          have n2' : a ∉ B2 := fun z => n2 (List.mem_append_right _ (List.mem_append_left _ z))
          obtain ⟨A, B3, e, c1, c2⟩ := h1.cut i.toNat
          subst e
          have na : a ∉ A := fun z => n1 (List.mem_append_left _ z)
          have nb : a ∉ B3 := fun z => n1 (List.mem_append_right _ z)
          refine ⟨vs.take i.toNat ++ [w2] ++ vs.drop i.toNat, (A ++ (B2 ++ [])) ++ B3, ((c1.upA na).app (.cons (hw2.upA n2') .nil)).app (c2.upA nb), ?_, fun Q q => ⟨a, vs, i, w2, rfl, rfl, hH, by rw [h1.length]; exact hl.1, hl.2.1, hl.2.2, q⟩⟩
          cases hw
          refine ⟨A ++ B3 ++ (B2 ++ []), ?_, by simp⟩
          rw [List.append_nil, List.append_assoc, List.append_assoc]
          exact List.Perm.append_left A List.perm_append_comm
    · cases hm
  · cases hm
theorem mut_rev : MutOk X "list.reverse" mRev := by
  refine ⟨rReverse, mt_reverse, fun K G H a vs os os' S1 ws ys T hm hH h1 h2 n1 n2 => ?_⟩
  unfold mRev at hm
  split at hm
  · cases hm
    cases h2
    obtain ⟨S', k1, k2⟩ := (h1.upA (u := .lst vs.reverse) n1).rev
    exact ⟨vs.reverse, S', k1, by rw [List.append_nil]; exact .of_perm k2, fun Q q => ⟨a, vs, rfl, rfl, hH, q⟩⟩
  · cases hm
theorem mut_clr : MutOk X "list.clear" mClr := by
  refine ⟨rClear, mt_clear, fun K G H a vs os os' S1 ws ys T hm hH h1 h2 n1 n2 => ?_⟩
  unfold mClr at hm
  split at hm
  · cases hm
    cases h2
    exact ⟨[], [], .nil, .of_sub (List.nil_sublist _), fun Q q => ⟨a, vs, rfl, rfl, hH, q⟩⟩
  · cases hm

variable {W : WX} {β : Bt} {o b : Expr} {bs : List Expr} {f : Ro → Rz (Nat × List Nat)} {g : Ro → Rz (List O)} {fa : Ro → Rz O} {apos cpos pos : Pos}
theorem mut_t {id : String} {m : List O → List O → Option (List O)} {r : V → List V → Hp → VK → Prop} (hr : ∀ (K : KF) (G H : Hp) (a : Addr) (vs : List V) (os os' : List O) (S1 : List Addr) (ws : List V) (ys : List O) (T : List Addr), m os ys = some os' → H a = some (.lst vs) → OrA K G H vs os S1 → OrA K G H ws ys T → a ∉ S1 → a ∉ T →
      ∃ vs' S1', OrA K G (upd H a (.lst vs')) vs' os' S1' ∧ Sbp S1' (S1 ++ T) ∧ ∀ Q : VK, Q .non (upd H a (.lst vs')) → r (.ref a) ws H Q) {D : Ends} {σ : L2.St} {H : Hp} (h : tS X.K X.mg W β (sMut f g m) D σ H) :
    tDrop (tBM X.K "list" r (tPa X.K X.mg W f) (tNs X.K X.mg W g)) D σ H := by
  obtain ⟨ρ, G, s, hq⟩ := h
  have s0 := s
  obtain ⟨S, mm, _⟩ := s0
  refine ⟨ρ, G, S, mm, ?_⟩
  unfold sMut at hq
  cases e : f ρ with
  | rs c => rw [e] at hq; exact rs_then s hq
  | st => rw [e] at hq; exact hq.elim
  | ok p =>
    obtain ⟨i, js⟩ := p
    rw [e] at hq
    simp only [Rz.then_ok] at hq
    split at hq
    · next o1 e1 =>
      split at hq
      · next os e2 =>
        intro v0 v1 G1 H1 x1 hv0 hw
        obtain ⟨w0, a, vs, S1, k1, k2, k3, k4, k5, k6, k7, k8, _⟩ := s.mut x1 e1 e2
        have ev : w0 = v0 := by
          have k1' : σ[i]? = some (some w0) := k1
          rw [hv0] at k1'
          exact (Option.some.inj (Option.some.inj k1')).symm
        subst ev
        have ew : v1 = .ref a := by
          have k2' : walkV H1 w0 js = some (.ref a) := k2
          rw [hw] at k2'
          exact Option.some.inj k2'
        subst ew
        refine ⟨.inl ⟨rfl, vs, .inl (.inl k3)⟩, ρ, G1, S, mm.up x1, ?_⟩
        cases e3 : g ρ with
        | rs c => rw [e3] at hq; exact rsW.up (rs_then s hq) x1
        | st => rw [e3] at hq; exact hq.elim
        | ok ys =>
          rw [e3] at hq
          simp only [Rz.then_ok] at hq
          intro ws G2 H2 T x2 rs nd fr
          split at hq
          · next os' e4 =>
            have x12 := x1.trans x2
            obtain ⟨w0', a', vs', S1', m1, m2, m3, m4, m5, m6, m7, m8, m9⟩ := s.mut x12 e1 e2
            have ew0 : w0' = w0 := by
              have m1' : σ[i]? = some (some w0') := m1
              rw [hv0] at m1'
              exact (Option.some.inj (Option.some.inj m1')).symm
            subst ew0
            have ea : a' = a := by
              have h1 : walkV H2 w0' js = some (.ref a) := walkV_up x2.h js hw
              have h2 : walkV H2 w0' js = some (.ref a') := m2
              rw [h1] at h2
              exact (V.ref.inj (Option.some.inj h2)).symm
            subst ea
            have nT : a' ∉ T := fun z => by
              have := (fr a' z).1
              rw [k3] at this
              cases this
            obtain ⟨vs2, S2, q1, q2, q3⟩ := hr X.K G2 H2 a' vs' os os' S1' ws ys T e4 m3 m4 rs m5 nT
            refine q3 _ ?_
            have := (m9 T vs2 os' S2 [] nd (fun c hc => ⟨back_none x1.h (fr c hc).1, (fr c hc).2⟩) q1 (by rw [List.append_nil]; exact q2)).1.stt
            exact hq σ G2 _ this x12.g
          · exact hq.elim
      · exact hq.elim
    · exact hq.elim
theorem pf_mut {name : Str} {id : String} {m : List O → List O → Option (List O)} (hm : MutOk X id m) (slot : Slot "list" name id) (hty : typeOf (.builtin id) = pure (.type "method_descriptor")) (ho : PPa X W o f) (ha : PNs X W (b :: bs) g)
    (hbase : attributeBase o name X.env (eval o X.env) = eval o X.env)
    (hfew : ((backTo cpos (starEach (b :: bs) X.env)).all (fun x => !x.1) && (backToKw cpos (keywordEach [] X.env)).all (fun x => x.1.isSome)
      && decide ((b :: bs).length + ([] : List Keyword).length + (if ([] : List Keyword).isEmpty then 0 else 1) < 30)) = true)
    (hline : (apos.endLine == cpos.line) = true) (hs : starEach (b :: bs) X.env = (false, eval b X.env) :: starEach bs X.env) (hplain : (backTo cpos (starEach bs X.env)).any (·.1) = false)
    (hsw : swapsWith (.Call (.Attribute o name apos) (b :: bs) [] cpos) none pos.line X.env = pure false) :
    PF X W β (.Expr (.Call (.Attribute o name apos) (b :: bs) [] cpos) pos) (sMut f g m) := by
  obtain ⟨r, h1, h2⟩ := hm
  exact PS.wk (ps_expr (pe_bm PySem.F.plainAttrs_list slot hty h1 ho ha hbase hfew hline hs hplain) hsw) fun D σ H h => mut_t (id := id) h2 h
theorem tNs_nil {K : KF} {mg : Mg} {ρ : Ro} {σ : L2.St} {G H : Hp} {S : List Addr} {Q : List V → Hp → Prop} (m : Sm K G H ρ σ S) (h : tNs K mg W (fun _ => .ok []) σ H Q) : Q [] H := by
  obtain ⟨ρ', G', S', m', h⟩ := h
  exact h [] G' H [] (Xt.refl m'.le) .nil .nil fun _ z => absurd z (by simp)
theorem pf_mut0 {name : Str} {id : String} {m : List O → List O → Option (List O)} (hm : MutOk X id m) (slot : Slot "list" name id) (hty : typeOf (.builtin id) = pure (.type "method_descriptor")) (ho : PPa X W o f)
    (hbase : attributeBase o name X.env (eval o X.env) = eval o X.env) (hline : (apos.endLine == cpos.line) = true)
    (hsw : swapsWith (.Call (.Attribute o name apos) [] [] cpos) none pos.line X.env = pure false) :
    PF X W β (.Expr (.Call (.Attribute o name apos) [] [] cpos) pos) (sMut f (fun _ => .ok []) m) := by
  obtain ⟨r, h1, h2⟩ := hm
  refine PS.wk (ps_expr (pe_bm0 PySem.F.plainAttrs_list slot hty h1 ho hbase hline) hsw) fun D σ H h => ?_
  obtain ⟨ρ, G, S, mm, h'⟩ := mut_t (id := id) h2 h
  refine ⟨ρ, G, S, mm, ?_⟩
  cases e : f ρ with
  | rs c => rw [e] at h'; exact h'
  | st => rw [e] at h'; exact h'
  | ok p =>
    rw [e] at h'
    intro v0 v1 G' H' x hv hw
    obtain ⟨t1, t2⟩ := h' v0 v1 G' H' x hv hw
    exact ⟨t1, tNs_nil (mm.up x) t2⟩

/-! ### p[k] = e -/
def sPut (f : Ro → Rz (Nat × List Nat)) (g fa : Ro → Rz O) (ρ : Ro) : Rs := (fa ρ).then ρ fun y => (f ρ).then ρ fun p => (g ρ).then ρ fun k => match ρ[p.1]? with
  | some (some o) => match subO o p.2, k with
    | some (.ol os), .fz (.int n) => match ixN os.length n with
      | some j => .nx (ρ.set p.1 (some (putO o p.2 (.ol (os.set j y)))))
      | none => .st
    | _, _ => .st
  | _ => .st
theorem pf_put {i : Expr} {q : Bool} {gi : Ro → Rz O} {sp : Pos} (he : PQ X W false b fa) (ho : PPa X W o f) (hi : PQ X W q i gi) (hg : PG X (.Subscript o i sp) (gSub (tPa X.K X.mg W f) (tO X.K X.mg W q gi) rSetL))
    (hs : swapsWithSole [(.Subscript o i sp)] b pos.line X.env = pure false) (hw : swappedStores [(.Subscript o i sp)] b X.env = pure none) :
    PF X W β (.Assign [.Subscript o i sp] b pos) (sPut f gi fa) := PS.wk (ps_asg he hg hs hw) fun D σ H ⟨ρ, G, s, hq⟩ => by
  obtain ⟨S, mm, _⟩ := id s
  refine ⟨ρ, G, S, mm, ?_⟩
  unfold sPut at hq
  cases e : fa ρ with
  | rs c => rw [e] at hq; exact rs_then s hq
  | st => rw [e] at hq; exact hq.elim
  | ok y =>
    rw [e] at hq
    simp only [Rz.then_ok] at hq
    intro w G1 H1 T x1 rw1 fr1
    obtain ⟨nd1, fr1⟩ := fr1 rfl
    refine ⟨ρ, G1, S, mm.up x1, ?_⟩
    cases e2 : f ρ with
    | rs c => rw [e2] at hq; exact rsW.up (rs_then s hq) x1
    | st => rw [e2] at hq; exact hq.elim
    | ok p =>
      obtain ⟨i', js⟩ := p
      rw [e2] at hq
      simp only [Rz.then_ok] at hq
      intro v0 v1 G2 H2 x2 hv0 hw2
      refine ⟨ρ, G2, S, mm.up (x1.trans x2), ?_⟩
      cases e3 : gi ρ with
      | rs c => rw [e3] at hq; exact rsW.up (rs_then s hq) (x1.trans x2)
      | st => rw [e3] at hq; exact hq.elim
      | ok k =>
        rw [e3] at hq
        simp only [Rz.then_ok] at hq
        intro v3 G3 H3 T3 x3 r3 _
        split at hq
        · next o1 e4 =>
          split at hq
          · next os n e5 =>
            split at hq
            · next j hj =>
              have x13 := (x1.trans x2).trans x3
              obtain ⟨w0, a, vs, S1, k1, k2, k3, k4, k5, k6, k7, k8, k9⟩ := s.mut x13 e4 e5
              have ev : w0 = v0 := by
                have k1' : σ[i']? = some (some w0) := k1
                rw [hv0] at k1'
                exact (Option.some.inj (Option.some.inj k1')).symm
              subst ev
              have ew : v1 = .ref a := by
                have h1 : walkV H3 w0 js = some v1 := walkV_up x3.h js hw2
                have k2' : walkV H3 w0 js = some (.ref a) := k2
                rw [h1] at k2'
                exact Option.some.inj k2'
              subst ew
              have x23 := x2.trans x3
              have nT : a ∉ T := fun z => k7 (fr1 a z).1
              have rw3 : Or X.K G3 (upd H3 a (.lst (vs.set j w))) w y T := (rw1.up x23.g x23.h).upA nT
              obtain ⟨S', q1, q2⟩ := (k4.upA (u := .lst (vs.set j w)) k5).setAt j rw3 (ixN_seq hj).2.1
              refine ⟨a, vs, n, j, rfl, r3.int, k3, by rw [k4.length]; exact hj, ?_⟩
              have := (k9 T (vs.set j w) (os.set j y) S' [] nd1 (fun c hc => ⟨(fr1 c hc).1, by
                obtain ⟨z, hz⟩ := Or.mem _ _ _ rw1 c hc
                rw [x23.n c (by rw [hz]; exact fun q => nomatch q)]
                exact (fr1 c hc).2⟩) q1 (by rw [List.append_nil]; exact q2)).1.stt
              exact hq σ G3 _ this x13.g
            · exact hq.elim
          · exact hq.elim
        · exact hq.elim
end
end Mw
/-! Ms5: a def by its body; parameters that are data, parameters that are lent. -/
namespace Mw
open PySem PySem.Spec PyProof.Rows L2

/-- what a call comes to: the value, what the lent things are then -/
inductive Rl where
  | ok (o : O) (os : List O) | rs (c : Str) (os : List O) | st
def Rl.z : Rl → Rz O
  | .ok o _ => .ok o
  | .rs c _ => .rs c
  | .st => .st
/-- the arguments, by the parameters' modes: lent, or data -/
inductive Args (K : KF) (G H : Hp) : List Bool → List V → List D → List O → List Addr → Prop
  | nil : Args K G H [] [] [] [] []
  | d {md : List Bool} {v : V} {vs : List V} {d : D} {ds : List D} {os : List O} {S : List Addr} : Rp K G v d → Args K G H md vs ds os S → Args K G H (false :: md) (v :: vs) (d :: ds) os S
  | l {md : List Bool} {v : V} {vs : List V} {o : O} {ds : List D} {os : List O} {T S : List Addr} : Or K G H v o T → Args K G H md vs ds os S → Args K G H (true :: md) (v :: vs) ds (o :: os) (T ++ S)
/-- the lent ones of the values -/
def lentV : List Bool → List V → List V
  | true :: md, v :: vs => v :: lentV md vs
  | false :: md, _ :: vs => lentV md vs
  | _, _ => []
def mergeA : List Bool → List D → List O → Option (List O)
  | [], [], [] => some []
  | false :: md, d :: ds, os => (mergeA md ds os).map (O.fz d :: ·)
  | true :: md, ds, o :: os => (mergeA md ds os).map (o :: ·)
  | _, _, _ => none
def outsR : List Bool → Ro → Option (List O)
  | [], _ => some []
  | false :: md, _ :: ρ => outsR md ρ
  | true :: md, some o :: ρ => (outsR md ρ).map (o :: ·)
  | _, _ => none
def outsA (md : List Bool) (ρ : Ro) : Option (List O) := if md.all (!·) = true then some [] else outsR md ρ
abbrev bt (G H : Hp) (S : List Addr) (md : List Bool) (vs : List V) : Bt := ⟨G, H, S, md, vs⟩
def eRl (K : KF) (mg : Mg) (G H : Hp) (md : List Bool) (vs : List V) (S : List Addr) (Q : VK) (E : XK) : Rl → Prop
  | .ok o os => ∀ v G' H' T S', Bs (bt G H S md vs) G' H' → Le G' H' → Or K G' H' v o T → OrA K G' H' (lentV md vs) os S' → (T ++ S').Nodup → (∀ a ∈ T ++ S', (H a = none ∨ a ∈ S) ∧ G' a = none) → Q v H'
  | .rs c os => ∀ cv, mg c = some cv → ∀ G' H' S', Bs (bt G H S md vs) G' H' → Le G' H' → OrA K G' H' (lentV md vs) os S' → S'.Nodup → (∀ a ∈ S', (H a = none ∨ a ∈ S) ∧ G' a = none) → E cv none H'
  | .st => False
def spL (K : KF) (mg : Mg) (md : List Bool) (g : List D → List O → Rl) : Sp := fun vs H Q E => ∃ G ds os S, Le G H ∧ Args K G H md vs ds os S ∧ S.Nodup ∧ (∀ a ∈ S, G a = none) ∧ eRl K mg G H md vs S Q E (g ds os)
section
variable {K : KF} {G H G' H' : Hp}
theorem Args.len : ∀ {md : List Bool} {vs : List V} {ds : List D} {os : List O} {S : List Addr}, Args K G H md vs ds os S → vs.length = md.length
  | _, _, _, _, _, .nil => rfl
  | _, _, _, _, _, .d _ h => by rw [List.length_cons, List.length_cons, Args.len h]
  | _, _, _, _, _, .l _ h => by rw [List.length_cons, List.length_cons, Args.len h]
theorem sl_none : ∀ n : Nat, Sl K G H (List.replicate n none) (List.replicate n none) []
  | 0 => .nil
  | n + 1 => .no (sl_none n)
theorem Args.start : ∀ {md : List Bool} {vs : List V} {ds : List D} {os : List O} {S : List Addr} (n : Nat), Args K G H md vs ds os S → ∃ as, mergeA md ds os = some as ∧ as.length = md.length ∧ Sl K G H (as.map some ++ List.replicate n none) (vs.map some ++ List.replicate n none) S
  | _, _, _, _, _, n, .nil => ⟨[], rfl, rfl, sl_none n⟩
  | _, _, _, _, _, n, .d r h => by
    obtain ⟨as, e, l, s⟩ := Args.start n h
    exact ⟨_ :: as, by simp [mergeA, e], by simp [l], .so (.fz r) s⟩
  | _, _, _, _, _, n, .l r h => by
    obtain ⟨as, e, l, s⟩ := Args.start n h
    exact ⟨_ :: as, by simp [mergeA, e], by simp [l], .so r s⟩
/-- the lent slots at the end -/
theorem Sl.outX : ∀ {md : List Bool} {ρ : Ro} {σ : L2.St} {S : List Addr} {vs : List V} {os : List O}, Sl K G H ρ σ S → outsR md ρ = some os → (∀ i : Nat, md[i]? = some true → ∃ v, vs[i]? = some v ∧ σ[i]? = some (some v)) → md.length = vs.length →
    ∃ S', OrA K G H (lentV md vs) os S' ∧ S'.Sublist S
  | [], _, _, _, _, _, h, e, _, _ => by
    simp [outsR] at e
    subst e
    exact ⟨[], by simpa [lentV] using OrA.nil, List.nil_sublist _⟩
  | false :: md, _, _, _, [], _, h, e, k, l => by simp at l
  | true :: md, _, _, _, [], _, h, e, k, l => by simp at l
  | false :: md, _, _, _, v :: vs, os, .nil, e, k, l => by simp [outsR] at e
  | true :: md, _, _, _, v :: vs, os, .nil, e, k, l => by simp [outsR] at e
  | false :: md, _, _, _, v :: vs, os, .no h, e, k, l => by
    obtain ⟨S', h1, h2⟩ := Sl.outX (vs := vs) h (by simpa [outsR] using e) (fun i hi => by simpa using k (i + 1) (by simpa using hi)) (by simpa using l)
    exact ⟨S', by simpa [lentV] using h1, h2⟩
  | false :: md, _, _, _, v :: vs, os, .so _ h, e, k, l => by
    obtain ⟨S', h1, h2⟩ := Sl.outX (vs := vs) h (by simpa [outsR] using e) (fun i hi => by simpa using k (i + 1) (by simpa using hi)) (by simpa using l)
    exact ⟨S', by simpa [lentV] using h1, h2.trans (List.sublist_append_right _ _)⟩
  | true :: md, _, _, _, v :: vs, os, .no h, e, k, l => by simp [outsR] at e
  | true :: md, _, _, _, v :: vs, os, .so r h, e, k, l => by
    simp only [outsR] at e
    obtain ⟨os', e1, rfl⟩ := Option.map_eq_some_iff.mp e
    obtain ⟨S', h1, h2⟩ := Sl.outX (vs := vs) h e1 (fun i hi => by simpa using k (i + 1) (by simpa using hi)) (by simpa using l)
    obtain ⟨w, k1, k2⟩ := k 0 rfl
    simp at k1 k2
    subst k1
    rw [k2] at r
    exact ⟨_ ++ S', by simpa [lentV] using OrA.cons r h1, List.Sublist.append (.refl _) h2⟩
theorem lentV_data : ∀ {md : List Bool} {vs : List V}, md.all (!·) = true → lentV md vs = []
  | [], _, _ => by simp [lentV]
  | true :: md, _, n => by simp at n
  | false :: md, [], _ => by simp [lentV]
  | false :: md, v :: vs, n => by
    simp only [lentV]
    exact lentV_data (by simpa using n)
theorem Sl.outs {md : List Bool} {ρ : Ro} {σ : L2.St} {S : List Addr} {vs : List V} {os : List O} (h : Sl K G H ρ σ S) (e : outsA md ρ = some os) (k : ∀ i : Nat, md[i]? = some true → ∃ v, vs[i]? = some v ∧ σ[i]? = some (some v)) (l : md.length = vs.length) :
    ∃ S', OrA K G H (lentV md vs) os S' ∧ S'.Sublist S := by
  unfold outsA at e
  split at e
  · next hm =>
    cases e
    rw [lentV_data hm]
    exact ⟨[], .nil, List.nil_sublist _⟩
  · exact Sl.outX h e k l
end
/-- the body's end as the call's -/
def Rs.fin (md : List Bool) : Rs → Rl
  | .nx ρ => match outsA md ρ with | some os' => .ok (.fz .none) os' | none => .st
  | .rt o ρ => match outsA md ρ with | some os' => .ok o os' | none => .st
  | .rs c ρ => match outsA md ρ with | some os' => .rs c os' | none => .st
  | _ => .st
def fnR (n : Nat) (md : List Bool) (F : Ro → Rs) (ds : List D) (os : List O) : Rl := match mergeA md ds os with
  | none => .st
  | some as => (F (as.map some ++ List.replicate (n - as.length) none)).fin md
/-- the context of a def's body -/
structure Bdy (P : Program) (w : World) (K : KF) (mg : Mg) (base : Heap) (k : Nat) (N : List Str) (sc : Scope) (X : Cx) : Prop where
  hP : X.prog = P
  hw : X.w = w
  hK : X.K = K
  hm : X.mg = mg
  hb : X.base = base
  hN : X.N = N
  calm : X.calm = true
  room : Room k X.A
  hsc : X.env.scope = sc
  fn : X.fn = fun _ => true
  own : PassesOwn (model X.prog X.w) X.A X.env X.xe
  stk : X.stack = X.env :: X.outer
  fr : X.env.frame = some X.env.locals
theorem fn_by {P : Program} {w : World} {K : KF} {mg : Mg} {base : Heap} {x qual : Str} {st : Stmt} {f : Addr} {fd : FuncData} {N ps : List Str} {md : List Bool} {k : Nat} {B : Ro → Rs} (F : Fun K x qual st f fd) (S : FnScope N ps (defScope st)) (hmd : md.length = ps.length)
    (hB : ∀ (X : Cx) (W : WX) (β : Bt), Bdy P w K mg base k N (defScope st) X → Takes X W → β.md = md → PFs X W β (defBody st) B) :
    FnOk P w K mg base (L2.CX P w) (k + 1) f fd ps (spL K mg md (fnR N.length md B)) := by
  refine F.okX S (fun vs H Q E h => ?_) (fun cdv A outer s H vs Q E hr h => ?_)
  · obtain ⟨G, ds, os, T, _, h, _⟩ := h
    rw [h.len, hmd]
  · obtain ⟨G, ds, os, T, l, ar, nT, oT, hq⟩ := h
    refine ⟨tS K mg (fun cls d _ H => E cls d H) (bt G H T md vs) B, hB _ _ (bt G H T md vs) ⟨rfl, rfl, rfl, rfl, rfl, rfl, rfl, hr, rfl, rfl, passes_of rfl, rfl, rfl⟩ (takes_of rfl rfl rfl rfl) rfl, ?_⟩
    obtain ⟨as, e1, l1, s1⟩ := ar.start (N.length - vs.length)
    have hl : vs.length = md.length := ar.len
    refine ⟨as.map some ++ List.replicate (N.length - as.length) none, G, ⟨T, ⟨?_, nT, oT, l⟩, ⟨Le.rfl', fun a o e => .inr e, fun _ h => h, fun _ _ => .inr rfl⟩, fun a h => .inr h, fun i hi => ?_⟩, ?_⟩
    · unfold L2.start
      rw [l1, ← hl]
      exact s1
    · have hlt : i < md.length := (List.getElem?_eq_some_iff.mp hi).1
      have hi2 : i < vs.length := by omega
      refine ⟨vs[i]'hi2, List.getElem?_eq_getElem hi2, ?_⟩
      unfold L2.start
      rw [List.getElem?_append_left (by simp; omega)]
      simp [List.getElem?_eq_getElem (show i < vs.length by omega)]
    · unfold fnR at hq
      rw [e1] at hq
      simp only at hq
      have fin : ∀ ρ σ' G' H' T', SttD K (bt G H T md vs) ρ σ' G' H' T' → T'.Nodup → (∀ a ∈ T', (H a = none ∨ a ∈ T) ∧ G' a = none) → ∀ os', outsA md ρ = some os' → ∃ S', OrA K G' H' (lentV md vs) os' S' ∧ (T' ++ S').Nodup ∧ ∀ a ∈ T' ++ S', (H a = none ∨ a ∈ T) ∧ G' a = none := by
        intro ρ σ' G' H' T' ⟨S', m, b, ow, lv, ap⟩ n' f' os' ho
        obtain ⟨S2, k1, k2⟩ := m.sl.outs ho lv (by show md.length = vs.length; rw [hl])
        refine ⟨S2, k1, List.nodup_append.mpr ⟨n', m.nd.sublist k2, fun a ha b hb z => ap a ha (by subst z; exact k2.subset hb)⟩, fun a ha => ?_⟩
        rcases List.mem_append.mp ha with h | h
        · exact f' a h
        · exact ⟨ow a (k2.subset h), m.out a (k2.subset h)⟩
      cases e : B (as.map some ++ List.replicate (N.length - as.length) none) with
      | nx ρ =>
        rw [e] at hq
        unfold Rs.fin at hq
        simp only at hq
        split at hq
        · next os' ho =>
          intro σ' G' H' ⟨S', m, b, ow, lv⟩ _
          obtain ⟨S2, k1, k2, k3⟩ := fin ρ σ' G' H' [] ⟨S', m, b, ow, lv, fun a ha => absurd ha (by simp)⟩ .nil (fun a ha => absurd ha (by simp)) os' ho
          exact hq .non G' H' [] S2 b m.le (.fz .non) k1 k2 k3
        · exact hq.elim
      | rt o ρ =>
        rw [e] at hq
        unfold Rs.fin at hq
        simp only at hq
        split at hq
        · next os' ho =>
          intro v σ' G' H' T' s' _ r n' f'
          obtain ⟨S2, k1, k2, k3⟩ := fin ρ σ' G' H' T' s' n' f' os' ho
          obtain ⟨S', m, b, _⟩ := s'
          exact hq v G' H' T' S2 b m.le r k1 k2 k3
        · exact hq.elim
      | rs c ρ =>
        rw [e] at hq
        unfold Rs.fin at hq
        simp only at hq
        split at hq
        · next os' ho =>
          intro cv hcv σ' G' H' ⟨S', m, b, ow, lv⟩ _
          obtain ⟨S2, k1, k2, k3⟩ := fin ρ σ' G' H' [] ⟨S', m, b, ow, lv, fun a ha => absurd ha (by simp)⟩ .nil (fun a ha => absurd ha (by simp)) os' ho
          exact hq cv hcv G' H' S2 b m.le k1 (by simpa using k2) (by simpa using k3)
        · exact hq.elim
      | bk ρ => rw [e] at hq; exact hq.elim
      | ct ρ => rw [e] at hq; exact hq.elim
      | st => rw [e] at hq; exact hq.elim

/-! ### calls with data alone -/
theorem bs_xt {G H G' H' : Hp} {md : List Bool} {vs : List V} (b : Bs (bt G H [] md vs) G' H') (l : Le G' H') : Xt G H G' H' :=
  ⟨b.g, l, fun a o e => (b.h a o e).elim (fun z => absurd z (by simp)) id, fun a h => (b.n a h).elim (fun z => absurd z (by simp)) id⟩
theorem args_data {K : KF} {G H : Hp} : ∀ {vs : List V} {ds : List D} {md : List Bool}, RpA K G vs ds → md.length = ds.length → md.all (!·) = true → Args K G H md vs ds [] []
  | _, _, [], .nil, _, _ => .nil
  | _, _, [], .cons _ _, l, _ => by simp at l
  | _, _, b :: md, .nil, l, _ => by simp at l
  | _, _, true :: md, .cons _ _, _, n => by simp at n
  | _, _, false :: md, .cons r t, l, n => .d r (args_data t (by simpa using l) (by simpa using n))
section
variable {X : Cx} {W : WX} {a b : Expr} {es : List Expr} {fa fb : Ro → Rz O} {gs : Ro → Rz (List O)} {ds : Ro → Rz (List D)} {p q : Bool} {pos : Pos}
/-- from a call's wish to the call's promise -/
theorem spL_data {K : KF} {mg : Mg} {G H : Hp} {vs : List V} {r : List D} {md : List Bool} {g : List D → List O → Rl} {Q : VK} {E : XK} (l : Le G H) (rs : RpA K G vs r) (hl : md.length = r.length) (hn : md.all (!·) = true)
    (hok : ∀ o, (g r []).z = .ok o → FP K G H Q o) (hrs : ∀ c, (g r []).z = .rs c → ∀ cv, mg c = some cv → ∀ G' H', Xt G H G' H' → E cv none H') (hst : (g r []).z ≠ .st) : spL K mg md g vs H Q E := by
  refine ⟨G, r, [], [], l, args_data rs hl hn, .nil, fun a ha => absurd ha (by simp), ?_⟩
  cases e : g r [] with
  | ok o os =>
    intro v G' H' T S' b l' h1 h2 h3 h4
    rw [e] at hok
    exact hok o rfl v G' H' T (bs_xt b l') h1 (List.nodup_append.mp h3).1 fun a ha => ⟨((h4 a (List.mem_append_left _ ha)).1.elim id fun z => absurd z (by simp)), (h4 a (List.mem_append_left _ ha)).2⟩
  | rs c os =>
    intro cv hcv G' H' S' b l' h1 h2 h3
    rw [e] at hrs
    exact hrs c rfl cv hcv G' H' (bs_xt b l')
  | st => rw [e] at hst; exact (hst rfl).elim
theorem po_call {k : Nat} {md : List Bool} {f : Addr} {fd : FuncData} {ps : List Str} {x : Str} {pn : Pos} {g : List D → List O → Rl} (F : FnOk X.prog X.w X.K X.mg X.base (L2.CX X.prog X.w) k f fd ps (spL X.K X.mg md g)) (hr : Room k X.A) (hgl : Gl X x) (hm : X.mg x = some (.ref f))
    (hk : PySem.W.keepIn X.K (.ref f) = true) (hb : Binds X.K fd ps []) (tk : Takes X W) (ha : PDs X W (a :: es) ds) (hl : ∀ ρ r, ds ρ = .ok r → md.length = r.length) (hn : md.all (!·) = true) (hdb : (x == ("__debug__" : Str)) = false)
    (he : starEach (a :: es) X.env = (false, eval a X.env) :: starEach es X.env) (hpl : (backTo pos (starEach es X.env)).any (·.1) = false) :
    PQ X W false (.Call (.Name x pn) (a :: es) [] pos) (fun ρ => (ds ρ).bind fun r => (g r []).z) := PE.wk (pe_callS F hr hgl hm hk hb (fun σ => passAt tk σ) ha hdb he hpl) fun σ H Q ⟨ρ, G, S, m, hq⟩ => by
  refine ⟨ρ, G, S, m, ?_⟩
  try dsimp only at hq
  cases e : ds ρ with
  | ok r =>
    simp only [e, Rz.bind_ok] at hq
    intro vs G' H' x rs
    refine spL_data x.s rs (hl ρ r e) hn (fun o eo => ?_) (fun c ec => ?_) fun es => ?_
    · rw [eo] at hq; exact fp_of x hq
    · rw [ec] at hq; exact fun cv hcv G2 H2 y => hq cv hcv G2 H2 (x.trans y)
    · rw [es] at hq; exact hq.elim
  | rs c => simp only [e, Rz.bind_rs] at hq; exact hq
  | st => simp only [e, Rz.bind_st] at hq; exact hq.elim
/-- without arguments -/
theorem po_call0 {k : Nat} {f : Addr} {fd : FuncData} {ps : List Str} {x : Str} {pn : Pos} {g : List D → List O → Rl} (F : FnOk X.prog X.w X.K X.mg X.base (L2.CX X.prog X.w) k f fd ps (spL X.K X.mg [] g)) (hr : Room k X.A) (hgl : Gl X x) (hm : X.mg x = some (.ref f))
    (hk : PySem.W.keepIn X.K (.ref f) = true) (hb : Binds X.K fd ps []) (hg : ∀ c, (g [] []).z ≠ .rs c) (hdb : (x == ("__debug__" : Str)) = false) :
    PQ X W false (.Call (.Name x pn) [] [] pos) (fun _ => (g [] []).z) := PE.wk (pe_call0 (E := E0) (dvs := []) (ds := []) F hr hgl hm hk hb .nil L2.passL hdb) fun σ H Q ⟨ρ, G, S, m, hq⟩ => by
  show spL X.K X.mg [] g [] H Q E0
  refine spL_data m.le .nil rfl rfl (fun o eo => ?_) (fun c ec => (hg c ec).elim) fun es => ?_
  · dsimp only at hq
    rw [eo] at hq
    exact fp_of (Xt.refl m.le) hq
  · dsimp only at hq
    rw [es] at hq
    exact hq.elim
/-! ### calls to which things are shown, and not given -/
mutual
def noLst : D → Bool
  | .none | .bool _ | .int _ | .str _ => true
  | .tuple xs => noLstA xs
  | _ => false
def noLstA : List D → Bool
  | [] => true
  | x :: xs => noLst x && noLstA xs
end
mutual
def noOt : O → Bool
  | .fz _ => true
  | .ol xs => noOtA xs
  | .ot _ => false
def noOtA : List O → Bool
  | [] => true
  | x :: xs => noOt x && noOtA xs
end
mutual
theorem Or.lists {K : KF} {G H : Hp} : ∀ (o : O) (v : V) (S : List Addr), noOt o = true → Or K G H v o S → ∀ a ∈ S, ∃ vs, H a = some (.lst vs)
  | .fz _, _, _, _, h => by cases h; exact fun a ha => absurd ha (by simp)
  | .ol os, _, _, n, h => by
    cases h with
    | ol h1 h2 => exact fun a ha => (List.mem_cons.mp ha).elim (fun e => e ▸ ⟨_, h1⟩) fun e => OrA.lists os _ _ (by simpa [noOt] using n) h2 a e
  | .ot os, _, _, n, h => by simp [noOt] at n
theorem OrA.lists {K : KF} {G H : Hp} : ∀ (o : List O) (v : List V) (S : List Addr), noOtA o = true → OrA K G H v o S → ∀ a ∈ S, ∃ vs, H a = some (.lst vs)
  | [], _, _, _, h => by cases h; exact fun a ha => absurd ha (by simp)
  | o :: os, _, _, n, h => by
    have n' : noOt o = true ∧ noOtA os = true := by simpa [noOtA] using n
    cases h with
    | cons h1 h2 => exact fun a ha => (List.mem_append.mp ha).elim (fun e => Or.lists o _ _ n'.1 h1 a e) fun e => OrA.lists os _ _ n'.2 h2 a e
end
theorem OrB.shown {K : KF} {G H : Hp} (e : Le G H) : ∀ {vs : List V} {os : List O}, OrB K G H vs os → os.all noOt = true → ∃ S : List Addr, (∀ a ∈ S, ∃ ws, H a = some (.lst ws)) ∧ ∀ T : List Addr, (∀ a ∈ S, a ∈ T) → RpA K (giv G H T) vs (ods os)
  | _, _, .nil, _ => ⟨[], fun a ha => absurd ha (by simp), fun T _ => by simpa [ods] using RpA.nil⟩
  | _, _, @OrB.cons _ _ _ v vs o os S h t, n => by
    have n' : noOt o = true ∧ os.all noOt = true := by simpa using n
    obtain ⟨S2, h1, h2⟩ := OrB.shown e t n'.2
    refine ⟨S ++ S2, fun a ha => (List.mem_append.mp ha).elim (fun z => Or.lists o _ _ n'.1 h a z) (h1 a), fun T hT => ?_⟩
    simp only [ods]
    exact .cons (Or.give e T o v S (fun a ha => hT a (List.mem_append_left _ ha)) h) (h2 T fun a ha => hT a (List.mem_append_right _ ha))
mutual
theorem Rp.less {K : KF} {G G2 : Hp} {S : List Addr} (hl : ∀ a ∈ S, ∃ vs, G a = some (.lst vs)) (hs : ∀ a, a ∉ S → G2 a = G a) : ∀ (d : D) (v : V), noLst d = true → Rp K G v d → Rp K G2 v d
  | .none, _, _, h => by cases h; exact .non
  | .bool b, _, _, h => by cases h; exact .bl b
  | .int i, _, _, h => by cases h; exact .int i
  | .str x, _, _, h => by cases h; exact .str x
  | .tuple ds, _, n, h => by
    cases h with
    | tup h1 h2 =>
      refine .tup ?_ (RpA.less hl hs ds _ (by simpa [noLst] using n) h2)
      rcases h1 with (h1 | ⟨o, h1⟩) | h1
      · refine .inl (.inl ?_)
        rw [hs _ fun z => by obtain ⟨ws, e⟩ := hl _ z; rw [h1] at e; cases e]
        exact h1
      · refine .inl (.inr ⟨o, ?_⟩)
        rw [hs _ fun z => by obtain ⟨ws, e⟩ := hl _ z; rw [h1] at e; cases e]
        exact h1
      · exact .inr h1
  | .list _, _, n, _ => by simp [noLst] at n
  | .dict _, _, n, _ => by simp [noLst] at n
theorem RpA.less {K : KF} {G G2 : Hp} {S : List Addr} (hl : ∀ a ∈ S, ∃ vs, G a = some (.lst vs)) (hs : ∀ a, a ∉ S → G2 a = G a) : ∀ (d : List D) (v : List V), noLstA d = true → RpA K G v d → RpA K G2 v d
  | [], _, _, h => by cases h; exact .nil
  | d :: ds, _, n, h => by
    have n' : noLst d = true ∧ noLstA ds = true := by simpa [noLstA] using n
    cases h with
    | cons h1 h2 => exact .cons (Rp.less hl hs d _ n'.1 h1) (RpA.less hl hs ds _ n'.2 h2)
end
/-- f(..) of what is shown: what comes back has no list in it -/
def oShown (g : List D → List O → Rl) (os : List O) : Rz O := if os.all noOt = true then (match (g (ods os) []).z with
    | .ok (.fz d) => if noLst d = true then .ok (.fz d) else .st
    | .ok _ => .st
    | .rs c => .rs c
    | .st => .st) else .st
theorem po_callb {k : Nat} {md : List Bool} {f : Addr} {fd : FuncData} {ps : List Str} {x : Str} {pn : Pos} {g : List D → List O → Rl} (F : FnOk X.prog X.w X.K X.mg X.base (L2.CX X.prog X.w) k f fd ps (spL X.K X.mg md g)) (hr : Room k X.A) (hgl : Gl X x) (hm : X.mg x = some (.ref f))
    (hk : PySem.W.keepIn X.K (.ref f) = true) (hb : Binds X.K fd ps []) (tk : Takes X W) (ha : POs X W (a :: es) gs) (hl : ∀ ρ r, gs ρ = .ok r → md.length = r.length) (hn : md.all (!·) = true) (hdb : (x == ("__debug__" : Str)) = false)
    (he : starEach (a :: es) X.env = (false, eval a X.env) :: starEach es X.env) (hpl : (backTo pos (starEach es X.env)).any (·.1) = false) :
    PQ X W false (.Call (.Name x pn) (a :: es) [] pos) (fun ρ => (gs ρ).bind (oShown g)) := PE.wk (pe_callS F hr hgl hm hk hb (fun σ => passAt tk σ) ha hdb he hpl) fun σ H Q ⟨ρ, G, S, m, hq⟩ => by
  refine ⟨ρ, G, S, m, ?_⟩
  try dsimp only at hq
  cases e : gs ρ with
  | ok r =>
    simp only [e, Rz.bind_ok] at hq
    intro vs G1 H1 x1 rs
    unfold oShown at hq
    split at hq
    · next hno =>
      obtain ⟨T, t1, t2⟩ := rs.shown x1.s hno
      have t3 := t2 T fun _ h => h
      have back : ∀ G' H', Xt (giv G1 H1 T) H1 G' H' → Xt G1 H1 (fun a => if a ∈ T then G1 a else G' a) H' := fun G' H' y => by
        refine ⟨fun a o q => ?_, fun a o q => ?_, y.h, fun a q => ?_⟩
        · by_cases z : a ∈ T
          · simp only [if_pos z]; exact q
          · simp only [if_neg z]; exact y.g a o (giv_le x1.s T a o q)
        · by_cases z : a ∈ T
          · simp only [if_pos z] at q; exact y.h a o (x1.s a o q)
          · simp only [if_neg z] at q; exact y.s a o q
        · by_cases z : a ∈ T
          · simp only [if_pos z]
          · simp only [if_neg z]; rw [y.n a q, giv_out z]
      have lT : ∀ {G' H'}, Xt (giv G1 H1 T) H1 G' H' → ∀ a ∈ T, ∃ ws, G' a = some (.lst ws) := fun y a ha => by
        obtain ⟨ws, q⟩ := t1 a ha
        exact ⟨ws, y.g a _ (by unfold giv; rw [if_pos ha]; exact q)⟩
      refine spL_data (giv_sub x1.s T) t3 (by rw [hl ρ r e, ods_map, List.length_map]) hn (fun o eo => ?_) (fun c ec => ?_) fun es => ?_
      · rw [eo] at hq
        cases o with
        | fz d =>
          simp only at hq
          split at hq
          · next hd =>
            intro v G' H' T' y r' _ _
            cases r' with
            | fz r' =>
              exact hq v _ H' [] (x1.trans (back G' H' y)) (.fz (Rp.less (lT y) (fun a ha => by simp only [if_neg ha]) d v hd r')) fun _ => ⟨.nil, fun _ z => absurd z (by simp)⟩
          · exact hq.elim
        | ol _ => exact hq.elim
        | ot _ => exact hq.elim
      · rw [ec] at hq; exact fun cv hcv G2 H2 y => hq cv hcv _ H2 (x1.trans (back G2 H2 y))
      · rw [es] at hq; exact hq.elim
    · exact hq.elim
  | rs c => simp only [e, Rz.bind_rs] at hq; exact hq
  | st => simp only [e, Rz.bind_st] at hq; exact hq.elim
end
end Mw
/-! Mw15: expressions as a small tree; what they are worth; the look that a text has this form. -/
namespace Mw
open PySem PySem.Spec PyProof.Rows L2

inductive Bo where
  | add | sub | mul | div | mod
  deriving DecidableEq
inductive Co where
  | lt | le | gt | ge | eq | ne | in_ | ni
  deriving DecidableEq
inductive Bi where
  | len | list | tuple | max | min | all | any | sum | str | int
  deriving DecidableEq
inductive M1 where
  | join | split | part
  deriving DecidableEq
mutual
inductive E where
  | c (d : D) | v (i : Nat) | g (x : Str)
  | bin (o : Bo) (a b : E) | cmp (o : Co) (a b : E) | isn (n : Bool) (a : E) | neg (a : E) | not (a : E) | and (a b : E) | or (a b : E) | ite (c a b : E)
  | tup (es : Es) | lst (es : Es) | ix (a b : E) | sl (a : E) (lo hi : Eo)
  | call (f : Str) (es : Es) | callb (f : Str) (es : Es) | bi (f : Bi) (es : Es) | isi (a : E) (T : String) | m1 (m : M1) (a b : E)
  | lc (t : Tg) (it : It) (c : Eo) (e : E)
inductive Es where
  | nil | cons (a : E) (r : Es)
inductive Eo where
  | no | so (a : E)
inductive It where
  | any (a : E) | rng (es : Es)
end
/-- the module: names that are built-in, its constants, its defs with their parameters' modes, its exceptions -/
structure Gs where
  bl : List Str
  gl : List (Str × D)
  fn : List (Str × List Bool)
  ex : List Str
structure Gm where
  s : Gs
  fuel : Nat
  run : Nat → Str → List D → List O → Rl

def bo : Bo → O → O → Rz O
  | .add => oAdd | .sub => oSub | .mul => oMul | .div => oDiv | .mod => oMod
def co (k : Nat) : Co → O → O → Rz O
  | .lt => oLt | .le => oLe | .gt => oGt | .ge => oGe | .eq => oEq k | .ne => oNe k | .in_ => oIn k | .ni => oNi k
def bi : Bi → List O → Rz O
  | .len => oLen | .list => oList | .tuple => oTuple | .max => oMax | .min => oMin | .all => oAll | .any => oAny | .sum => oSum | .str => oStr | .int => oInt
def m1 : M1 → Str → O → Rz O
  | .join => oJoin | .split => oSplit | .part => oPartn
/-- may its value be a part of what stands in a slot? -/
def pth : E → Bool
  | .v _ => true
  | .ix _ _ => true
  | .ite _ a b => pth a || pth b
  | .and _ b => pth b
  | .or _ b => pth b
  | _ => false
def ofO (p : Bool) (o : Option D) : Rz O := match o with
  | some d => .ok (.fz d)
  | none => .st

mutual
def ev (Γ : Gm) (k : Nat) : E → Ro → Rz O
  | .c d => fun _ => .ok (.fz d)
  | .v i => oVar i
  | .g x => fun _ => match Γ.s.gl.lookup x with | some d => .ok (.fz d) | none => .st
  | .bin o a b => fun ρ => (ev Γ k a ρ).bind fun x => (ev Γ k b ρ).bind fun y => bo o x y
  | .cmp o a b => fun ρ => (ev Γ k a ρ).bind fun x => (ev Γ k b ρ).bind fun y => co k o x y
  | .isn n a => fun ρ => (ev Γ k a ρ).bind fun o => oB (match n with | true => !isNon o | false => isNon o)
  | .neg a => fun ρ => (ev Γ k a ρ).bind oNeg
  | .not a => vNot (ev Γ k a)
  | .and a b => vAnd (ev Γ k a) (ev Γ k b)
  | .or a b => vOr (ev Γ k a) (ev Γ k b)
  | .ite c a b => vIf (evT Γ k c) (ev Γ k a) (ev Γ k b)
  | .tup es => fun ρ => (evN Γ k es ρ).bind fun os => .ok (oTup os)
  | .lst es => fun ρ => (evN Γ k es ρ).bind fun os => .ok (.ol os)
  | .ix a b => fun ρ => (ev Γ k a ρ).bind fun x => (ev Γ k b ρ).bind fun y => oIx x y
  | .sl a lo hi => fun ρ => (ev Γ k a ρ).bind fun x => (evP Γ k lo ρ).bind fun l => (evP Γ k hi ρ).bind fun u => oSl x l u
  | .call f es => match es with
    | .nil => fun _ => noRs (Γ.run k f [] []).z
    | .cons a r => fun ρ => (evD Γ k (.cons a r) ρ).bind fun ds => (Γ.run k f ds []).z
  | .callb f es => fun ρ => (evB Γ k es ρ).bind (oShown (Γ.run k f))
  | .bi f es => fun ρ => (evB Γ k es ρ).bind (bi f)
  | .isi a T => fun ρ => (ev Γ k a ρ).bind fun o => oB (isD o.d T)
  | .m1 m a b => vM1 (m1 m) (ev Γ k a) (ev Γ k b)
  | .lc t it c e => oLc t (evC Γ k c) (nw (pth e) (ev Γ k e)) (evI Γ k it)
/-- as a test -/
def evT (Γ : Gm) (k : Nat) : E → Ro → Rz Bool
  | .and a b => bAnd (evT Γ k a) (evT Γ k b)
  | .or a b => bOr (evT Γ k a) (evT Γ k b)
  | .not a => bNot (evT Γ k a)
  | .cmp o a b => fun ρ => ((ev Γ k a ρ).bind fun x => (ev Γ k b ρ).bind fun y => co k o x y).bind oTru0
  | .isn n a => fun ρ => (ev Γ k a ρ).bind fun o => .ok (match n with | true => !isNon o | false => isNon o)
  | .v i => fun ρ => (oVar i ρ).bind oTru
  | .call f es => match es with
    | .nil => fun _ => (noRs (Γ.run k f [] []).z).bind oTru
    | .cons a r => fun ρ => ((evD Γ k (.cons a r) ρ).bind fun ds => (Γ.run k f ds []).z).bind oTru
  | .callb f es => fun ρ => ((evB Γ k es ρ).bind (oShown (Γ.run k f))).bind oTru
  | .isi a T => fun ρ => ((ev Γ k a ρ).bind fun o => oB (isD o.d T)).bind oTru
  | .bi f es => fun ρ => ((evB Γ k es ρ).bind (bi f)).bind oTru
  | .ix a b => fun ρ => ((ev Γ k a ρ).bind fun x => (ev Γ k b ρ).bind fun y => oIx x y).bind oTru
  | .c d => fun _ => (Rz.ok (.fz d)).bind oTru
  | _ => fun _ => .st
def evN (Γ : Gm) (k : Nat) : Es → Ro → Rz (List O)
  | .nil => fun _ => .ok []
  | .cons a r => lCons (nw (pth a) (ev Γ k a)) (evN Γ k r)
def evD (Γ : Gm) (k : Nat) : Es → Ro → Rz (List D)
  | .nil => fun _ => .ok []
  | .cons a r => lCons (fun ρ => (ev Γ k a ρ).bind (toD (pth a))) (evD Γ k r)
def evB (Γ : Gm) (k : Nat) : Es → Ro → Rz (List O)
  | .nil => fun _ => .ok []
  | .cons a r => lCons (ev Γ k a) (evB Γ k r)
def evP (Γ : Gm) (k : Nat) : Eo → Ro → Rz (Option Int)
  | .no => fun _ => .ok none
  | .so a => fun ρ => (ev Γ k a ρ).bind oPart
def evC (Γ : Gm) (k : Nat) : Eo → Ro → Rz Bool
  | .no => fun _ => .ok true
  | .so a => evT Γ k a
def evI (Γ : Gm) (k : Nat) : It → Ro → Rz (List D)
  | .any a => fun ρ => (ev Γ k a ρ).bind oItems
  | .rng es => fun ρ => (evB Γ k es ρ).bind oRng
end
/-- what a for walks: known things alone -/
def evF (Γ : Gm) (k : Nat) : It → Ro → Rz (List D)
  | .any a => fun ρ => ((ev Γ k a ρ).bind (toD (pth a))).bind fun d => oItems (.fz d)
  | .rng es => fun ρ => (evB Γ k es ρ).bind oRng
end Mw
/-! Mw16: the look that an expression's text has the form of a small tree. -/
namespace Mw
open PySem PySem.Spec PyProof.Rows L2

/-! ### parts of the text -/
def xName : Expr → Option Str
  | .Name x _ => some x
  | _ => none
theorem xName_some {e : Expr} {x : Str} (h : xName e = some x) : ∃ p, e = .Name x p := by
  cases e <;> simp [xName] at h
  subst h
  exact ⟨_, rfl⟩
def xBin : Expr → Option (Expr × Operator × Expr)
  | .BinOp l o r _ => some (l, o, r)
  | _ => none
theorem xBin_some {e l r : Expr} {o : Operator} (h : xBin e = some (l, o, r)) : ∃ p, e = .BinOp l o r p := by
  cases e <;> simp [xBin] at h
  obtain ⟨rfl, rfl, rfl⟩ := h
  exact ⟨_, rfl⟩
def xCmp : Expr → Option (Expr × CmpOp × Expr)
  | .Compare l [o] [r] _ => some (l, o, r)
  | _ => none
theorem xCmp_some {e l r : Expr} {o : CmpOp} (h : xCmp e = some (l, o, r)) : ∃ p, e = .Compare l [o] [r] p := by
  unfold xCmp at h
  split at h
  · cases h; exact ⟨_, rfl⟩
  · cases h
def xUn : Expr → Option (UnaryOp × Expr)
  | .UnaryOp o a _ => some (o, a)
  | _ => none
theorem xUn_some {e a : Expr} {o : UnaryOp} (h : xUn e = some (o, a)) : ∃ p, e = .UnaryOp o a p := by
  cases e <;> simp [xUn] at h
  obtain ⟨rfl, rfl⟩ := h
  exact ⟨_, rfl⟩
/-- and, or: the first part, what is left -/
def xBool : Expr → Option (PySem.BoolOp × Expr × Expr × List Expr × Pos)
  | .BoolOp o (a :: b :: r) p => some (o, a, b, r, p)
  | _ => none
theorem xBool_some {e a b : Expr} {o : PySem.BoolOp} {r : List Expr} {p : Pos} (h : xBool e = some (o, a, b, r, p)) : e = .BoolOp o (a :: b :: r) p := by
  unfold xBool at h
  split at h
  · cases h; rfl
  · cases h
def xIf : Expr → Option (Expr × Expr × Expr)
  | .IfExp c a b _ => some (c, a, b)
  | _ => none
theorem xIf_some {e c a b : Expr} (h : xIf e = some (c, a, b)) : ∃ p, e = .IfExp c a b p := by
  cases e <;> simp [xIf] at h
  obtain ⟨rfl, rfl, rfl⟩ := h
  exact ⟨_, rfl⟩
def xTup : Expr → Option (List Expr)
  | .Tuple es _ _ => some es
  | _ => none
theorem xTup_some {e : Expr} {es : List Expr} (h : xTup e = some es) : ∃ k p, e = .Tuple es k p := by
  cases e <;> simp [xTup] at h
  subst h
  exact ⟨_, _, rfl⟩
def xLst : Expr → Option (List Expr)
  | .List es _ => some es
  | _ => none
theorem xLst_some {e : Expr} {es : List Expr} (h : xLst e = some es) : ∃ p, e = .List es p := by
  cases e <;> simp [xLst] at h
  subst h
  exact ⟨_, rfl⟩
def xSub : Expr → Option (Expr × Expr)
  | .Subscript a b _ => some (a, b)
  | _ => none
theorem xSub_some {e a b : Expr} (h : xSub e = some (a, b)) : ∃ p, e = .Subscript a b p := by
  cases e <;> simp [xSub] at h
  obtain ⟨rfl, rfl⟩ := h
  exact ⟨_, rfl⟩
def xSl : Expr → Option (Option Expr × Option Expr)
  | .Slice lo hi none _ => some (lo, hi)
  | _ => none
theorem xSl_some {e : Expr} {lo hi : Option Expr} (h : xSl e = some (lo, hi)) : ∃ p, e = .Slice lo hi none p := by
  unfold xSl at h
  split at h
  · cases h; exact ⟨_, rfl⟩
  · cases h
/-- a call of a name, plain arguments -/
def xCall : Expr → Option (Str × List Expr)
  | .Call (.Name x _) es [] _ => some (x, es)
  | _ => none
theorem xCall_some {e : Expr} {x : Str} {es : List Expr} (h : xCall e = some (x, es)) : ∃ pn p, e = .Call (.Name x pn) es [] p := by
  unfold xCall at h
  split at h
  · cases h; exact ⟨_, _, rfl⟩
  · cases h
/-- o.name(a) on one line -/
def xMeth1 : Expr → Option (Expr × Str × Expr × Bool)
  | .Call (.Attribute o n ap) [a] [] p => some (o, n, a, ap.endLine == p.line)
  | _ => none
theorem xMeth1_some {e o a : Expr} {n : Str} {b : Bool} (h : xMeth1 e = some (o, n, a, b)) : ∃ ap p, e = .Call (.Attribute o n ap) [a] [] p ∧ (ap.endLine == p.line) = b := by
  unfold xMeth1 at h
  split at h
  · cases h; exact ⟨_, _, rfl, rfl⟩
  · cases h
def xLc : Expr → Option (Expr × Expr × Expr × List Expr × Scope × Pos)
  | .ListComp e [⟨t, i, ifs, 0⟩] sc p => some (e, t, i, ifs, sc, p)
  | _ => none
theorem xLc_some {e el t i : Expr} {ifs : List Expr} {sc : Scope} {p : Pos} (h : xLc e = some (el, t, i, ifs, sc, p)) : e = .ListComp el [⟨t, i, ifs, 0⟩] sc p := by
  unfold xLc at h
  split at h
  · cases h; rfl
  · cases h
def noStar : Expr → Bool
  | .Starred _ _ => false
  | _ => true
theorem star_ok {e : Expr} {es : List Expr} {env : Env} (h : noStar e = true) : starEach (e :: es) env = (false, eval e env) :: starEach es env := by
  cases e <;> first | rfl | cases h
def noSet : Expr → Bool
  | .Set _ _ _ => false
  | _ => true
theorem set_ok {e : Expr} {env : Env} (h : noSet e = true) : ∀ x, foldedSetIterable e env x = pure x := by
  intro x
  cases e <;> first | rfl | cases h
theorem behind_ok {e : Expr} {op : CmpOp} (h : noSet e = true) : behindInMarks op e = false := by
  cases e <;> first | rfl | cases h
def noSlice : Expr → Bool
  | .Slice _ _ _ _ => false
  | _ => true
theorem plain_ok {e : Expr} (h : noSlice e = true) : PlainIx e := by
  intro o i
  cases e <;> first | rfl | cases h
/-- its test is its value's truth -/
def plainT : Expr → Bool
  | .UnaryOp _ _ _ => false
  | .BoolOp _ _ _ => false
  | .IfExp _ _ _ _ => false
  | .Compare _ _ _ _ => false
  | _ => true
theorem test_ok {e : Expr} {env : Env} (h : plainT e = true) : ∀ whole, isTrue e env whole = (do let v ← whole; standAt e.pos; holding [v] (truthy v)) := by
  intro whole
  cases e <;> first | rfl | cases h
def noCallBase : Expr → Bool
  | .Call _ _ _ _ => false
  | _ => true
theorem base_ok {e : Expr} {n : Str} {env : Env} {w : Sem Value} (h : noCallBase e = true) : attributeBase e n env w = w := by
  cases e <;> first | rfl | cases h
def notDbg (x : Str) : Bool := !(x == ("__debug__" : Str)) && !(x == ("__classdict__" : Str)) && !(x == ("__name__" : Str))
theorem notDbg1 {x : Str} (h : notDbg x = true) : (x == ("__debug__" : Str)) = false := by
  simp only [notDbg, Bool.and_eq_true, Bool.not_eq_true'] at h
  exact h.1.1
theorem notDbg2 {x : Str} (h : notDbg x = true) : (x == ("__classdict__" : Str)) = false := by
  simp only [notDbg, Bool.and_eq_true, Bool.not_eq_true'] at h
  exact h.1.2
theorem notDbg3 {x : Str} (h : notDbg x = true) : x ≠ "__name__" := by
  simp only [notDbg, Bool.and_eq_true, Bool.not_eq_true'] at h
  exact fun e => by
    have := h.2
    rw [e] at this
    simp at this
def visC (sc : Scope) (x : Str) : Bool := match sc.names.lookup x with
  | some .local => true
  | some .cell => true
  | some .free => true
  | _ => false
theorem visC_ok {sc : Scope} {x : Str} (h : visC sc x = true) : Vis sc x := by
  unfold visC at h
  split at h
  · exact .inl (by assumption)
  · exact .inr (.inl (by assumption))
  · exact .inr (.inr (by assumption))
  · cases h
def glC (sc : Scope) (x : Str) : Bool := match sc.names.lookup x with
  | some .globalImplicit => true
  | _ => false
theorem glC_ok {X : Cx} {sc : Scope} {x : Str} (hs : X.env.scope = sc) (h : glC sc x = true) : Gl X x := by
  unfold glC at h
  show X.env.scope.names.lookup x = _
  rw [hs]
  split at h
  · assumption
  · cases h
def cC : D → Const → Bool
  | .none, .none => true
  | .bool a, .bool b => a == b
  | .int a, .int b => a == b
  | .str a, .str b => decide (a = b)
  | _, _ => false
def boC : Bo → Operator → Bool
  | .add, .Add => true | .sub, .Sub => true | .mul, .Mult => true | .div, .FloorDiv => true | .mod, .Mod => true
  | _, _ => false
def coC : Co → CmpOp → Bool
  | .lt, .Lt => true | .le, .LtE => true | .gt, .Gt => true | .ge, .GtE => true | .eq, .Eq => true | .ne, .NotEq => true | .in_, .In => true | .ni, .NotIn => true
  | _, _ => false
def biN : Bi → Str
  | .len => "len" | .list => "list" | .tuple => "tuple" | .max => "max" | .min => "min" | .all => "all" | .any => "any" | .sum => "sum" | .str => "str" | .int => "int"
def m1N : M1 → Str
  | .join => "join" | .split => "split" | .part => "partition"
def lenE : Es → Nat
  | .nil => 0
  | .cons _ r => lenE r + 1
/-- a def whose n parameters are all data -/
def fnC (Γ : Gs) (f : Str) (n : Nat) : Bool := match Γ.fn.lookup f with
  | some md => md.all (!·) && decide (md.length = n)
  | none => false
theorem fnC_ok {Γ : Gs} {f : Str} {n : Nat} (h : fnC Γ f n = true) : ∃ md, Γ.fn.lookup f = some md ∧ md.all (!·) = true ∧ md.length = n := by
  unfold fnC at h
  split at h
  · next md e =>
    simp only [Bool.and_eq_true, decide_eq_true_eq] at h
    exact ⟨md, e, h.1, h.2⟩
  · cases h
/-- the names of a target, with their slots -/
def xTg : Tg → Expr → Option (List (Str × Nat))
  | .one i, .Name x _ => some [(x, i)]
  | .two i j, .Tuple [.Name x _, .Name y _] _ _ => some [(x, i), (y, j)]
  | _, _ => none
/-- a comprehension's own names -/
def tgB (N : List Str) (scope : Scope) (own : List (Str × Nat)) : Bool := own.all fun p => decide (N[p.2]? = some p.1) && (match scope.names.lookup p.1 with
  | some .local => true
  | some .cell => true
  | _ => false)
def hasB (l : List Str) (x : Str) : Bool := l.any fun y => decide (y = x)
theorem hasB_ok {l : List Str} {x : Str} (h : hasB l x = true) : x ∈ l := by
  obtain ⟨y, hy, e⟩ := List.any_eq_true.mp h
  rw [← of_decide_eq_true e]
  exact hy
def tyB (x : Str) (T : String) : Bool := (["str", "int", "bool", "list", "tuple", "dict"].contains T) && decide (x = Str.ofString T)

mutual
def chE (Γ : Gs) (N : List Str) (sc : Scope) : E → Expr → Bool
  | .c d, e => match e with | .Constant c _ _ => cC d c | _ => false
  | .v i, e => match xName e with | some x => decide (N[i]? = some x) && visC sc x && notDbg x | none => false
  | .g x, e => match xName e with | some y => decide (y = x) && glC sc x && notDbg x && (Γ.gl.lookup x).isSome | none => false
  | .bin o a b, e => match xBin e with | some (l, op, r) => boC o op && chE Γ N sc a l && chE Γ N sc b r | none => false
  | .cmp o a b, e => match xCmp e with | some (l, op, r) => coC o op && noSet r && chE Γ N sc a l && chE Γ N sc b r | none => false
  | .isn n a, e => match e with
    | .Compare l [op] [.Constant .none _ _] _ => decide (op = match n with | true => CmpOp.IsNot | false => CmpOp.Is) && chE Γ N sc a l
    | _ => false
  | .neg a, e => match xUn e with | some (op, x) => decide (op = .USub) && chE Γ N sc a x | none => false
  | .not a, e => match xUn e with | some (op, x) => decide (op = .Not) && chE Γ N sc a x | none => false
  | .and a b, e => match xBool e with
    | some (op, x, y, r, p) => decide (op = .And) && chE Γ N sc a x && (match r with | [] => chE Γ N sc b y | z :: r => chE Γ N sc b (.BoolOp .And (y :: z :: r) p))
    | none => false
  | .or a b, e => match xBool e with
    | some (op, x, y, r, p) => decide (op = .Or) && chE Γ N sc a x && (match r with | [] => chE Γ N sc b y | z :: r => chE Γ N sc b (.BoolOp .Or (y :: z :: r) p))
    | none => false
  | .ite c a b, e => match xIf e with | some (x, y, z) => chT Γ N sc c x && chE Γ N sc a y && chE Γ N sc b z | none => false
  | .tup es, e => match xTup e with | some l => decide (lenE es ≤ 1000) && chEs Γ N sc es l | none => false
  | .lst es, e => match xLst e with | some l => decide (lenE es ≤ 1000) && chEs Γ N sc es l | none => false
  | .ix a b, e => match xSub e with | some (x, y) => noSlice y && chE Γ N sc a x && chE Γ N sc b y | none => false
  | .sl a lo hi, e => match xSub e with
    | some (x, y) => (match xSl y with | some (l, h) => chE Γ N sc a x && chO Γ N sc lo l && chO Γ N sc hi h | none => false)
    | none => false
  | .call f es, e => match xCall e with
    | some (x, l) => decide (x = f) && glC sc x && notDbg x && fnC Γ f (lenE es) && chEs Γ N sc es l
    | none => false
  | .callb f es, e => match xCall e with
    | some (x, l) => decide (x = f) && glC sc x && notDbg x && fnC Γ f (lenE es) && !decide (lenE es = 0) && chEs Γ N sc es l
    | none => false
  | .bi f es, e => match xCall e with
    | some (x, l) => decide (x = biN f) && glC sc x && notDbg x && hasB Γ.bl x && !decide (lenE es = 0) && chEs Γ N sc es l
    | none => false
  | .isi a T, e => match xCall e with
    | some (x, [y, z]) => (match xName z with
      | some t => decide (x = "isinstance") && glC sc x && hasB Γ.bl x && tyB t T && glC sc t && notDbg t && hasB Γ.bl t && noStar y && chE Γ N sc a y
      | none => false)
    | _ => false
  | .m1 m a b, e => match xMeth1 e with
    | some (o, n, x, l) => decide (n = m1N m) && l && noCallBase o && noStar x && chE Γ N sc a o && chE Γ N sc b x
    | none => false
  | .lc t it c el, e => match xLc e with
    | some (x, tx, i, ifs, scope, p) => (match xTg t tx with
      | some own => blkC N sc scope own && tgB N scope own && noSet i && chI Γ N sc it i && chC Γ N (relS scope sc) c ifs && chE Γ N (relS scope sc) el x
      | none => false)
    | none => false
/-- a test -/
def chT (Γ : Gs) (N : List Str) (sc : Scope) : E → Expr → Bool
  | .and a b, e => match xBool e with
    | some (op, x, y, r, p) => decide (op = .And) && chT Γ N sc a x && (match r with | [] => chT Γ N sc b y | z :: r => chT Γ N sc b (.BoolOp .And (y :: z :: r) p))
    | none => false
  | .or a b, e => match xBool e with
    | some (op, x, y, r, p) => decide (op = .Or) && chT Γ N sc a x && (match r with | [] => chT Γ N sc b y | z :: r => chT Γ N sc b (.BoolOp .Or (y :: z :: r) p))
    | none => false
  | .not a, e => match xUn e with | some (op, x) => decide (op = .Not) && chT Γ N sc a x | none => false
  | .cmp o a b, e => match xCmp e with | some (l, op, r) => coC o op && noSet r && chE Γ N sc a l && chE Γ N sc b r | none => false
  | .isn n a, e => match e with
    | .Compare l [op] [.Constant .none _ _] _ => decide (op = match n with | true => CmpOp.IsNot | false => CmpOp.Is) && chE Γ N sc a l
    | _ => false
  | .v i, e => plainT e && (match xName e with | some x => decide (N[i]? = some x) && visC sc x && notDbg x | none => false)
  | .call f es, e => plainT e && (match xCall e with
    | some (x, l) => decide (x = f) && glC sc x && notDbg x && fnC Γ f (lenE es) && chEs Γ N sc es l
    | none => false)
  | .callb f es, e => plainT e && (match xCall e with
    | some (x, l) => decide (x = f) && glC sc x && notDbg x && fnC Γ f (lenE es) && !decide (lenE es = 0) && chEs Γ N sc es l
    | none => false)
  | .isi a T, e => plainT e && (match xCall e with
    | some (x, [y, z]) => (match xName z with
      | some t => decide (x = "isinstance") && glC sc x && hasB Γ.bl x && tyB t T && glC sc t && notDbg t && hasB Γ.bl t && noStar y && chE Γ N sc a y
      | none => false)
    | _ => false)
  | .bi f es, e => plainT e && (match xCall e with
    | some (x, l) => decide (x = biN f) && glC sc x && notDbg x && hasB Γ.bl x && !decide (lenE es = 0) && chEs Γ N sc es l
    | none => false)
  | .ix a b, e => plainT e && (match xSub e with | some (x, y) => noSlice y && chE Γ N sc a x && chE Γ N sc b y | none => false)
  | .c d, e => plainT e && (match e with | .Constant c _ _ => cC d c | _ => false)
  | _, _ => false
def chEs (Γ : Gs) (N : List Str) (sc : Scope) : Es → List Expr → Bool
  | .nil, l => match l with | [] => true | _ => false
  | .cons a r, l => match l with | x :: l => noStar x && chE Γ N sc a x && chEs Γ N sc r l | [] => false
def chO (Γ : Gs) (N : List Str) (sc : Scope) : Eo → Option Expr → Bool
  | .no, o => match o with | none => true | some _ => false
  | .so a, o => match o with | some x => chE Γ N sc a x | none => false
def chC (Γ : Gs) (N : List Str) (sc : Scope) : Eo → List Expr → Bool
  | .no, l => match l with | [] => true | _ => false
  | .so c, l => match l with | [y] => chT Γ N sc c y | _ => false
def chI (Γ : Gs) (N : List Str) (sc : Scope) : It → Expr → Bool
  | .any a, e => chE Γ N sc a e
  | .rng es, e => match xCall e with
    | some (x, l) => decide (x = "range") && glC sc x && hasB Γ.bl x && (decide (lenE es = 1) || decide (lenE es = 2)) && chEs Γ N sc es l
    | none => false
end
end Mw
/-! Mw17: an expression that has the form is worth what its tree is worth. -/
namespace Mw
open PySem PySem.Spec PyProof.Rows L2

/-- what is known of the module, in a context -/
structure Tb (X : Cx) (k : Nat) (Γ : Gm) : Prop where
  nd : X.N.Nodup
  calm : X.calm = true
  room : Room k X.A
  blt : ∀ x ∈ Γ.s.bl, X.mg x = none
  glob : ∀ x d, Γ.s.gl.lookup x = some d → ∃ v u, X.mg x = some u ∧ RelV v u ∧ ∀ G, Rp X.K G v d
  fns : ∀ x n, Γ.s.fn.lookup x = some n → ∃ f fd ps, X.mg x = some (.ref f) ∧ PySem.W.keepIn X.K (.ref f) = true ∧ Binds X.K fd ps [] ∧ FnOk X.prog X.w X.K X.mg X.base (L2.CX X.prog X.w) k f fd ps (spL X.K X.mg n (Γ.run k x))

theorem bi_nr (f : Bi) : ∀ os c, bi f os ≠ .rs c := by
  intro os c h
  cases f <;> simp only [bi] at h
  · unfold oLen at h; repeat' split at h
    all_goals cases h
  · unfold oList at h; repeat' split at h
    all_goals cases h
  · unfold oTuple at h; repeat' split at h
    all_goals cases h
  · unfold oMax at h; repeat' split at h
    all_goals cases h
  · unfold oMin at h; repeat' split at h
    all_goals cases h
  · unfold oAll oB at h; repeat' split at h
    all_goals cases h
  · unfold oAny oB at h; repeat' split at h
    all_goals cases h
  · unfold oSum at h; repeat' split at h
    all_goals cases h
  · unfold oStr at h; repeat' split at h
    all_goals cases h
  · unfold oInt at h; repeat' split at h
    all_goals cases h
theorem m1_nr (m : M1) : ∀ z o c, m1 m z o ≠ .rs c := by
  intro z o c h
  cases m <;> simp only [m1] at h
  · unfold oJoin at h; repeat' split at h
    all_goals cases h
  · unfold oSplit at h; repeat' split at h
    all_goals cases h
  · unfold oPartn at h; repeat' split at h
    all_goals cases h
theorem bo_nr (o : Bo) : NoRs (bo o) := by
  cases o
  · exact nr_add
  · exact nr_sub
  · exact nr_mul
  · exact nr_div
  · exact nr_mod
theorem co_nr {k : Nat} (o : Co) : NoRs (co k o) := by
  cases o
  · exact nr_lt
  · exact nr_le
  · exact nr_gt
  · exact nr_ge
  · exact nr_eq
  · exact nr_ne
  · exact nr_in
  · exact nr_ni
theorem bo_ok {X : Cx} {o : Bo} {op : Operator} (h : boC o op = true) : OpR X (binaryOp op) (r2 X.K (bo o)) := by
  unfold boC at h
  split at h
  · exact rl_add
  · exact rl_sub
  · exact rl_mul
  · exact rl_div
  · exact rl_mod
  · cases h
theorem co_ok {X : Cx} {k : Nat} (hr : Room k X.A) {o : Co} {op : CmpOp} (h : coC o op = true) : OpR X (compareOp op) (r2 X.K (co k o)) := by
  unfold coC at h
  split at h
  · exact rl_lt
  · exact rl_le
  · exact rl_gt
  · exact rl_ge
  · exact rl_eq hr
  · exact rl_ne hr
  · exact rl_in hr
  · exact rl_ni hr
  · cases h
theorem cC_ok {X : Cx} {d : D} {c : Const} {j : Nat} {p : Pos} {W : WX} (h : cC d c = true) : PD X W (.Constant c j p) (fun _ => .ok d) := by
  cases d <;> cases c <;> first | cases h | skip
  · exact pd_c pe_non fun _ => .non
  · obtain rfl : _ = _ := eq_of_beq h
    exact pd_c pe_bl fun _ => .bl _
  · obtain rfl : _ = _ := eq_of_beq h
    exact pd_c pe_int fun _ => .int _
  · obtain rfl : _ = _ := of_decide_eq_true h
    exact pd_c pe_str fun _ => .str _
theorem noStar_pl {es : List Expr} {env : Env} {pos : Pos} (h : es.all noStar = true) : (backTo pos (starEach es env)).any (·.1) = false := by
  induction es with
  | nil => rfl
  | cons e r ih =>
    simp only [List.all_cons, Bool.and_eq_true] at h
    rw [star_ok h.1]
    show (false || (backTo pos (starEach r env)).any (·.1)) = false
    rw [ih h.2]
    rfl
theorem chEs_star {Γ : Gm} {N : List Str} {sc : Scope} : ∀ {es : Es} {l : List Expr}, chEs Γ.s N sc es l = true → l.all noStar = true ∧ l.length = lenE es
  | .nil, l, h => by
    unfold chEs at h
    split at h
    · exact ⟨rfl, rfl⟩
    · cases h
  | .cons a r, l, h => by
    unfold chEs at h
    split at h
    · simp only [Bool.and_eq_true] at h
      obtain ⟨h1, h2⟩ := chEs_star h.2
      exact ⟨by simp [h.1.1, h1], by simp [lenE, h2]⟩
    · cases h
section
variable {X : Cx} {k : Nat} {Γ : Gm} {W : WX}
/-- the lengths of what is handed over -/
theorem evN_len : ∀ {es : Es} {ρ : Ro} {os : List O}, evN Γ k es ρ = .ok os → os.length = lenE es
  | .nil, _, _, h => by
    simp only [evN] at h
    cases h
    rfl
  | .cons a r, ρ, os, h => by
    simp only [evN, lCons] at h
    cases e : nw (pth a) (ev Γ k a) ρ with
    | ok o =>
      rw [e] at h
      simp only [Rz.bind_ok] at h
      cases e2 : evN Γ k r ρ with
      | ok os' => rw [e2] at h; cases h; simp [lenE, evN_len e2]
      | rs c => rw [e2] at h; cases h
      | st => rw [e2] at h; cases h
    | rs c => rw [e] at h; cases h
    | st => rw [e] at h; cases h
theorem evD_len : ∀ {es : Es} {ρ : Ro} {os : List D}, evD Γ k es ρ = .ok os → os.length = lenE es
  | .nil, _, _, h => by
    simp only [evD] at h
    cases h
    rfl
  | .cons a r, ρ, os, h => by
    simp only [evD, lCons] at h
    cases e : (ev Γ k a ρ).bind (toD (pth a)) with
    | ok o =>
      rw [e] at h
      simp only [Rz.bind_ok] at h
      cases e2 : evD Γ k r ρ with
      | ok os' => rw [e2] at h; cases h; simp [lenE, evD_len e2]
      | rs c => rw [e2] at h; cases h
      | st => rw [e2] at h; cases h
    | rs c => rw [e] at h; cases h
    | st => rw [e] at h; cases h
theorem evB_len : ∀ {es : Es} {ρ : Ro} {os : List O}, evB Γ k es ρ = .ok os → os.length = lenE es
  | .nil, _, _, h => by
    simp only [evB] at h
    cases h
    rfl
  | .cons a r, ρ, os, h => by
    simp only [evB, lCons] at h
    cases e : ev Γ k a ρ with
    | ok o =>
      rw [e] at h
      simp only [Rz.bind_ok] at h
      cases e2 : evB Γ k r ρ with
      | ok os' => rw [e2] at h; cases h; simp [lenE, evB_len e2]
      | rs c => rw [e2] at h; cases h
      | st => rw [e2] at h; cases h
    | rs c => rw [e] at h; cases h
    | st => rw [e] at h; cases h
theorem small_len {n : Nat} (h : n ≤ 1000) : n ≤ sizeLine := Nat.le_of_lt (small1000 h)

theorem bi_call {f : Bi} {a : Expr} {l : List Expr} {gs : Ro → Rz (List O)} {pn pos : Pos} (hgl : Gl X (biN f)) (hm : X.mg (biN f) = none) (hc : X.calm = true) (ha : POs X W (a :: l) gs) (he : starEach (a :: l) X.env = (false, eval a X.env) :: starEach l X.env)
    (hpl : (backTo pos (starEach l X.env)).any (·.1) = false) : PQ X W false (.Call (.Name (biN f) pn) (a :: l) [] pos) (fun ρ => (gs ρ).bind (bi f)) := by
  cases f
  · exact po_blt (bi_nr .len) rl_len hgl hm PySem.boot_len ha (by decide +kernel) (by decide +kernel) he hpl
  · exact po_blty (bi_nr .list) rl_list hgl hm boot_list ha (by decide +kernel) (by decide +kernel) he hpl
  · exact po_blty (bi_nr .tuple) rl_tuple hgl hm boot_tuple ha (by decide +kernel) (by decide +kernel) he hpl
  · exact po_blt (bi_nr .max) (rl_max hc) hgl hm (by decide +kernel) ha (by decide +kernel) (by decide +kernel) he hpl
  · exact po_blt (bi_nr .min) (rl_min hc) hgl hm (by decide +kernel) ha (by decide +kernel) (by decide +kernel) he hpl
  · exact po_blt (bi_nr .all) (rl_all hc) hgl hm (by decide +kernel) ha (by decide +kernel) (by decide +kernel) he hpl
  · exact po_blt (bi_nr .any) (rl_any hc) hgl hm (by decide +kernel) ha (by decide +kernel) (by decide +kernel) he hpl
  · exact po_blt (bi_nr .sum) (rl_sum hc) hgl hm (by decide +kernel) ha (by decide +kernel) (by decide +kernel) he hpl
  · exact po_blty (bi_nr .str) rl_str hgl hm boot_str ha (by decide +kernel) (by decide +kernel) he hpl
  · exact po_blty (bi_nr .int) rl_int hgl hm boot_int ha (by decide +kernel) (by decide +kernel) he hpl
theorem m1_call {m : M1} {o x : Expr} {fa fb : Ro → Rz O} {p q : Bool} {ap pos : Pos} (ha : PQ X W p o fa) (hb : PQ X W q x fb) (hs : starEach [x] X.env = [(false, eval x X.env)]) (hbase : ∀ n, attributeBase o n X.env (eval o X.env) = eval o X.env) (hl : (ap.endLine == pos.line) = true) :
    PQ X W false (.Call (.Attribute o (m1N m) ap) [x] [] pos) (vM1 (m1 m) fa fb) := by
  cases m
  · exact po_m1 (m1_nr .join) F.slot_str_join F.type_str_join rl_join ha hb hs (hbase _) hl
  · exact po_m1 (m1_nr .split) F.slot_str_split F.type_str_split rl_split ha hb hs (hbase _) hl
  · exact po_m1 (m1_nr .part) F.slot_str_partition F.type_str_partition rl_partn ha hb hs (hbase _) hl
theorem tyB_ok {x : Str} {T : String} (h : tyB x T = true) : T ∈ ["str", "int", "bool", "list", "tuple", "dict"] ∧ bootBuiltins x = some (.type T) := by
  simp only [tyB, Bool.and_eq_true, decide_eq_true_eq] at h
  obtain ⟨h1, rfl⟩ := h
  have h1 : T ∈ ["str", "int", "bool", "list", "tuple", "dict"] := by simpa using h1
  refine ⟨h1, ?_⟩
  simp only [List.mem_cons, List.not_mem_nil, or_false] at h1
  rcases h1 with rfl | rfl | rfl | rfl | rfl | rfl
  · exact boot_str
  · exact boot_int
  · exact boot_bool
  · exact boot_list
  · exact boot_tuple
  · exact boot_dict
end

/-- the block of a comprehension knows what its def knows -/
theorem Tb.blk {X : Cx} {k : Nat} {Γ : Gm} (T : Tb X k Γ) (s : Shared) (H : Hp) (scope : Scope) (cenv : Env) (fp : List Addr) : Tb (X.blk s H scope cenv fp) k Γ :=
  ⟨T.nd, T.calm, T.room, T.blt, T.glob, T.fns⟩
theorem takes_blk {X : Cx} {s : Shared} {H : Hp} {scope : Scope} {cenv : Env} {fp : List Addr} : Takes (X.blk s H scope cenv fp) W0 := fun _ _ ⟨_, _, _, _, _, _, _, _, _, _, _, _, _, _, _, _, w⟩ => w.elim
theorem pg_tg {X : Cx} {N : List Str} {t : Tg} {tx : Expr} {own : List (Str × Nat)} (hN : X.N = N) (nd : X.N.Nodup) (hc : X.calm = true) (h : xTg t tx = some own)
    (ok : ∀ p ∈ own, N[p.2]? = some p.1 ∧ Loc X.env.scope p.1 ∧ (X.fn p.1 = true ∨ X.env.scope.names.lookup p.1 = some .local)) : PG X tx (gT X.K t) ∧ own.map (·.2) = t.is := by
  subst hN
  unfold xTg at h
  split at h
  · cases h
    obtain ⟨h1, h2, h3⟩ := ok _ List.mem_cons_self
    exact ⟨pg_name nd h1 h2 h3, rfl⟩
  · cases h
    obtain ⟨h1, h2, h3⟩ := ok _ List.mem_cons_self
    obtain ⟨k1, k2, k3⟩ := ok _ (List.mem_cons_of_mem _ List.mem_cons_self)
    exact ⟨pg_tup hc (pgs_cons (pg_name nd h1 h2 h3) (pgs_cons (pg_name nd k1 k2 k3) pgs_nil)), rfl⟩
  · cases h
end Mw
/-! Mw18: the soundness of expressions. -/
namespace Mw
open PySem PySem.Spec PyProof.Rows L2

theorem relS_free {sc scope : Scope} {x : Str} {n : NameKind} (h : scope.names.lookup x = some n) (hn : n ≠ .free) : (relS scope sc).names.lookup x = some n := lookup_relS_keep hn h
theorem pg_blk {X : Cx} {N : List Str} {sc scope : Scope} {t : Tg} {tx : Expr} {own : List (Str × Nat)} {s : Shared} {H : Hp} {C : Addr} {cl : List (Str × Addr)} {fp : List Addr} (hN : X.N = N) (nd : X.N.Nodup) (hc : X.calm = true) (hsc : X.env.scope = sc)
    (h : xTg t tx = some own) (ok : tgB N scope own = true) : PG (X.blk s H scope (compEnvC scope cl C X.env) fp) tx (gT X.K t) ∧ own.map (·.2) = t.is := by
  refine pg_tg (X := X.blk s H scope (compEnvC scope cl C X.env) fp) (N := N) hN nd hc h fun p hp => ?_
  have q := List.all_eq_true.mp ok p hp
  simp only [Bool.and_eq_true, decide_eq_true_eq] at q
  refine ⟨q.1, ?_⟩
  have q2 := q.2
  have es : (X.blk s H scope (compEnvC scope cl C X.env) fp).env.scope = relS scope X.env.scope := rfl
  rw [es]
  split at q2
  · next e => exact ⟨.inl (relS_free e (by decide)), .inr (relS_free e (by decide))⟩
  · next e => exact ⟨.inr (relS_free e (by decide)), .inl (by show (scope.names.lookup p.1 == some NameKind.cell) = true; rw [e]; rfl)⟩
  · cases q2
theorem rngI {X : Cx} {W : WX} {k : Nat} {Γ : Gm} {es : Es} {l : List Expr} {pn p : Pos} {tg : Expr} {own : Bool} (hg : Gl X "range") (hm : X.mg "range" = none) (hB : POs X W l (evB Γ k es)) (hs : l.all noStar = true ∧ l.length = lenE es) (hl : lenE es = 1 ∨ lenE es = 2) :
    PIt X W own tg (.Call (.Name "range" pn) l [] p) (fun ρ => (evB Γ k es ρ).bind oRng) := by
  obtain ⟨h1, h2⟩ := hs
  rcases hl with hl | hl
  · rw [hl] at h2
    match l, h1, h2, hB with
    | [a], h1, _, hB =>
      simp only [List.all_cons, List.all_nil, Bool.and_true] at h1
      exact pit_rng1 hg hm hB (star_ok h1) fun ρ os e => by rw [evB_len e, hl]
  · rw [hl] at h2
    match l, h1, h2, hB with
    | [a, b], h1, _, hB =>
      simp only [List.all_cons, List.all_nil, Bool.and_true, Bool.and_eq_true] at h1
      exact pit_rng2 hg hm hB (by rw [star_ok h1.1, star_ok h1.2]; rfl) (star_ok h1.2) fun ρ os e => by rw [evB_len e, hl]
theorem pds_one {X : Cx} {W : WX} {es : List Expr} {f : Ro → Rz (List D)} (h : PDs X W es f) : PDs X W es f := h

theorem pq_st {X : Cx} {W : WX} {p : Bool} {e : Expr} : PQ X W p e (fun _ => .st) := ⟨fun _ _ _ _ _ _ ⟨_, _, _, _, h⟩ => h.elim⟩
theorem callE {X : Cx} {k : Nat} {Γ : Gm} {N : List Str} {W : WX} {sc : Scope} {y : Str} {es : Es} {l : List Expr} {pn p : Pos} (T : Tb X k Γ) (tk : Takes X W) (hsc : X.env.scope = sc) (h2 : glC sc y = true) (h3 : notDbg y = true) (h4 : fnC Γ.s y (lenE es) = true)
    (h5 : chEs Γ.s N sc es l = true) (hD : PDs X W l (evD Γ k es)) : PQ X W false (.Call (.Name y pn) l [] p) (ev Γ k (.call y es)) := by
  obtain ⟨md, h4, hn, hlen⟩ := fnC_ok h4
  obtain ⟨f, fd, ps, g1, g2, g3, g4⟩ := T.fns y _ h4
  obtain ⟨s1, s2⟩ := chEs_star h5
  cases es with
  | nil =>
    cases l with
    | cons a r => simp [lenE] at s2
    | nil =>
      have e0 : md = [] := by
        cases md with
        | nil => rfl
        | cons _ _ => simp [lenE] at hlen
      subst e0
      have e1 : ev Γ k (.call y .nil) = fun _ => noRs (Γ.run k y [] []).z := by
        funext ρ
        simp only [ev]
      rw [e1]
      cases e2 : (Γ.run k y [] []).z with
      | rs c => exact pq_st
      | st => exact pq_st
      | ok o =>
        have e3 : (fun _ => noRs (Rz.ok o)) = (fun _ : Ro => (Γ.run k y [] []).z) := by
          funext ρ
          rw [e2]
          rfl
        rw [e3]
        exact po_call0 g4 T.room (glC_ok hsc h2) g1 g2 g3 (fun c z => by rw [e2] at z; cases z) (notDbg1 h3)
  | cons a r =>
    cases l with
    | nil => simp [lenE] at s2
    | cons x r' =>
      simp only [List.all_cons, Bool.and_eq_true] at s1
      have e1 : ev Γ k (.call y (.cons a r)) = fun ρ => (evD Γ k (.cons a r) ρ).bind fun ds => (Γ.run k y ds []).z := by
        funext ρ
        simp only [ev]
      rw [e1]
      exact po_call g4 T.room (glC_ok hsc h2) g1 g2 g3 tk hD (fun ρ r e => by rw [hlen, evD_len e]) hn (notDbg1 h3) (star_ok s1.1) (noStar_pl s1.2)
theorem callbE {X : Cx} {k : Nat} {Γ : Gm} {N : List Str} {W : WX} {sc : Scope} {y : Str} {es : Es} {l : List Expr} {pn p : Pos} (T : Tb X k Γ) (tk : Takes X W) (hsc : X.env.scope = sc) (h2 : glC sc y = true) (h3 : notDbg y = true) (h4 : fnC Γ.s y (lenE es) = true) (h0 : ¬ lenE es = 0)
    (h5 : chEs Γ.s N sc es l = true) (hD : POs X W l (evB Γ k es)) : PQ X W false (.Call (.Name y pn) l [] p) (ev Γ k (.callb y es)) := by
  obtain ⟨md, h4, hn, hlen⟩ := fnC_ok h4
  obtain ⟨f, fd, ps, g1, g2, g3, g4⟩ := T.fns y _ h4
  obtain ⟨s1, s2⟩ := chEs_star h5
  cases l with
  | nil => exact absurd (by rw [← s2]; rfl) h0
  | cons x r' =>
    simp only [List.all_cons, Bool.and_eq_true] at s1
    have e1 : ev Γ k (.callb y es) = fun ρ => (evB Γ k es ρ).bind (oShown (Γ.run k y)) := by
      funext ρ
      simp only [ev]
    rw [e1]
    exact po_callb g4 T.room (glC_ok hsc h2) g1 g2 g3 tk hD (fun ρ r e => by rw [hlen, evB_len e]) hn (notDbg1 h3) (star_ok s1.1) (noStar_pl s1.2)
theorem pts_yes {X : Cx} {W : WX} : PBs X W [] (fun _ => .ok true) := ⟨fun pins s σ H Q I ⟨ρ, G, S, m, hq⟩ => pts_nil.run pins s σ H Q I (hq G H (Xt.refl m.le))⟩
theorem pt_pw {X : Cx} {o : PySem.BoolOp} {l : List Expr} {p : Pos} {t : TT} (h : PT X (.BoolOp o l p) t) : PW X (.BoolOp o l p) t := ⟨fun _ pins s σ H Q I q => h.run pins s σ H Q I q⟩
theorem evT_callb {Γ : Gm} {k : Nat} {f : Str} {es : Es} : evT Γ k (.callb f es) = fun ρ => (ev Γ k (.callb f es) ρ).bind oTru := by
  funext ρ; simp only [evT, ev]
theorem evT_call {Γ : Gm} {k : Nat} {f : Str} {es : Es} : evT Γ k (.call f es) = fun ρ => (ev Γ k (.call f es) ρ).bind oTru := by
  cases es <;> (funext ρ; simp only [evT, ev])

mutual
theorem sE {k : Nat} {Γ : Gm} {N : List Str} : ∀ (e : E) (X : Cx) (W : WX) (sc : Scope) (x : Expr), Tb X k Γ → Takes X W → X.N = N → X.env.scope = sc → chE Γ.s N sc e x = true → PQ X W (pth e) x (ev Γ k e)
  | .c d, X, W, sc, x, T, tk, hN, hsc, h => by
    simp only [chE] at h
    split at h
    · exact pd_o (cC_ok h)
    · cases h
  | .v i, X, W, sc, x, T, tk, hN, hsc, h => by
    simp only [chE] at h
    split at h
    · next y hy =>
      obtain ⟨p, rfl⟩ := xName_some hy
      simp only [Bool.and_eq_true, decide_eq_true_eq] at h
      exact po_v (by rw [hN]; exact h.1.1) (by rw [hsc]; exact visC_ok h.1.2) (notDbg1 h.2) (notDbg2 h.2)
    · cases h
  | .g y, X, W, sc, x, T, tk, hN, hsc, h => by
    simp only [chE] at h
    split at h
    · next z hz =>
      obtain ⟨p, rfl⟩ := xName_some hz
      simp only [Bool.and_eq_true, decide_eq_true_eq] at h
      obtain ⟨⟨⟨rfl, h2⟩, h3⟩, h4⟩ := h
      obtain ⟨d, hd⟩ := Option.isSome_iff_exists.mp h4
      obtain ⟨v, u, h5, h6, h7⟩ := T.glob _ d hd
      have e1 : ev Γ k (.g z) = fun _ => .ok (.fz d) := by
        funext ρ
        simp only [ev, hd]
      rw [e1]
      exact pd_o (pd_c (pe_glob (glC_ok hsc h2) h5 h6 (notDbg1 h3)) h7)
    · cases h
  | .bin o a b, X, W, sc, x, T, tk, hN, hsc, h => by
    simp only [chE] at h
    split at h
    · next l op r he =>
      obtain ⟨p, rfl⟩ := xBin_some he
      simp only [Bool.and_eq_true] at h
      exact po_op (bo_nr o) (bo_ok h.1.1) (sE a X W sc l T tk hN hsc h.1.2) (sE b X W sc r T tk hN hsc h.2)
    · cases h
  | .cmp o a b, X, W, sc, x, T, tk, hN, hsc, h => by
    simp only [chE] at h
    split at h
    · next l op r he =>
      obtain ⟨p, rfl⟩ := xCmp_some he
      simp only [Bool.and_eq_true] at h
      exact po_cmp (co_nr o) (co_ok T.room h.1.1.1) (behind_ok h.1.1.2) (sE a X W sc l T tk hN hsc h.1.2) (sE b X W sc r T tk hN hsc h.2)
    · cases h
  | .isn n a, X, W, sc, x, T, tk, hN, hsc, h => by
    simp only [chE] at h
    split at h
    · simp only [Bool.and_eq_true, decide_eq_true_eq] at h
      obtain ⟨rfl, h2⟩ := h
      cases n with
      | true => exact po_isnn (sE a X W sc _ T tk hN hsc h2)
      | false => exact po_isn (sE a X W sc _ T tk hN hsc h2)
    · cases h
  | .neg a, X, W, sc, x, T, tk, hN, hsc, h => by
    simp only [chE] at h
    split at h
    · next op y he =>
      obtain ⟨p, rfl⟩ := xUn_some he
      simp only [Bool.and_eq_true, decide_eq_true_eq] at h
      obtain ⟨rfl, h2⟩ := h
      exact po_neg (sE a X W sc _ T tk hN hsc h2)
    · cases h
  | .not a, X, W, sc, x, T, tk, hN, hsc, h => by
    simp only [chE] at h
    split at h
    · next op y he =>
      obtain ⟨p, rfl⟩ := xUn_some he
      simp only [Bool.and_eq_true, decide_eq_true_eq] at h
      obtain ⟨rfl, h2⟩ := h
      exact po_not (sE a X W sc _ T tk hN hsc h2)
    · cases h
  | .and a b, X, W, sc, x, T, tk, hN, hsc, h => by
    simp only [chE] at h
    split at h
    · next op y z r p he =>
      have e1 := xBool_some he
      subst e1
      simp only [Bool.and_eq_true, decide_eq_true_eq] at h
      obtain ⟨⟨rfl, h1⟩, h2⟩ := h
      refine po_and (sE a X W sc _ T tk hN hsc h1) ?_
      split at h2
      · exact po_one (sE b X W sc _ T tk hN hsc h2)
      · exact sE b X W sc _ T tk hN hsc h2
    · cases h
  | .or a b, X, W, sc, x, T, tk, hN, hsc, h => by
    simp only [chE] at h
    split at h
    · next op y z r p he =>
      have e1 := xBool_some he
      subst e1
      simp only [Bool.and_eq_true, decide_eq_true_eq] at h
      obtain ⟨⟨rfl, h1⟩, h2⟩ := h
      refine po_or (sE a X W sc _ T tk hN hsc h1) ?_
      split at h2
      · exact po_one (sE b X W sc _ T tk hN hsc h2)
      · exact sE b X W sc _ T tk hN hsc h2
    · cases h
  | .ite c a b, X, W, sc, x, T, tk, hN, hsc, h => by
    simp only [chE] at h
    split at h
    · next y z w he =>
      obtain ⟨p, rfl⟩ := xIf_some he
      simp only [Bool.and_eq_true] at h
      have ha := sE a X W sc _ T tk hN hsc h.1.2
      have hb := sE b X W sc _ T tk hN hsc h.2
      have hc := sT c X W sc _ T tk hN hsc h.1.1
      cases ea : pth a <;> cases eb : pth b <;> rw [ea] at ha <;> rw [eb] at hb <;> simp only [pth, ea, eb, Bool.or_true, Bool.or_false, Bool.true_or, Bool.false_or]
      · exact po_if hc ha hb
      · exact po_if hc (po_weak ha) hb
      · exact po_if hc ha (po_weak hb)
      · exact po_if hc ha hb
    · cases h
  | .tup es, X, W, sc, x, T, tk, hN, hsc, h => by
    simp only [chE] at h
    split at h
    · next l he =>
      obtain ⟨j, p, rfl⟩ := xTup_some he
      simp only [Bool.and_eq_true, decide_eq_true_eq] at h
      exact po_tup (sN es X W sc l T tk hN hsc h.2) fun ρ os e => small_len (by rw [evN_len e]; exact h.1)
    · cases h
  | .lst es, X, W, sc, x, T, tk, hN, hsc, h => by
    simp only [chE] at h
    split at h
    · next l he =>
      obtain ⟨p, rfl⟩ := xLst_some he
      simp only [Bool.and_eq_true, decide_eq_true_eq] at h
      exact po_lst (sN es X W sc l T tk hN hsc h.2) fun ρ os e => small_len (by rw [evN_len e]; exact h.1)
    · cases h
  | .ix a b, X, W, sc, x, T, tk, hN, hsc, h => by
    simp only [chE] at h
    split at h
    · next y z he =>
      obtain ⟨p, rfl⟩ := xSub_some he
      simp only [Bool.and_eq_true] at h
      exact po_ix (sE a X W sc y T tk hN hsc h.1.2) (sE b X W sc z T tk hN hsc h.2) (plain_ok h.1.1)
    · cases h
  | .sl a lo hi, X, W, sc, x, T, tk, hN, hsc, h => by
    simp only [chE] at h
    split at h
    · next y z he =>
      obtain ⟨p, rfl⟩ := xSub_some he
      split at h
      · next l u hs =>
        obtain ⟨p2, rfl⟩ := xSl_some hs
        simp only [Bool.and_eq_true] at h
        exact po_sl (sE a X W sc y T tk hN hsc h.1.1) (sP lo X W sc l T tk hN hsc h.1.2) (sP hi X W sc u T tk hN hsc h.2)
      · cases h
    · cases h
  | .call f es, X, W, sc, x, T, tk, hN, hsc, h => by
    simp only [chE] at h
    split at h
    · next y l he =>
      obtain ⟨pn, p, rfl⟩ := xCall_some he
      simp only [Bool.and_eq_true, decide_eq_true_eq] at h
      obtain ⟨⟨⟨⟨rfl, h2⟩, h3⟩, h4⟩, h5⟩ := h
      exact callE T tk hsc h2 h3 h4 h5 (sD es X W sc l T tk hN hsc h5)
    · cases h
  | .callb f es, X, W, sc, x, T, tk, hN, hsc, h => by
    simp only [chE] at h
    split at h
    · next y l he =>
      obtain ⟨pn, p, rfl⟩ := xCall_some he
      simp only [Bool.and_eq_true, decide_eq_true_eq, Bool.not_eq_true', decide_eq_false_iff_not] at h
      obtain ⟨⟨⟨⟨⟨rfl, h2⟩, h3⟩, h4⟩, h5⟩, h6⟩ := h
      exact callbE T tk hsc h2 h3 h4 h5 h6 (sB es X W sc l T tk hN hsc h6)
    · cases h
  | .bi f es, X, W, sc, x, T, tk, hN, hsc, h => by
    simp only [chE] at h
    split at h
    · next y l he =>
      obtain ⟨pn, p, rfl⟩ := xCall_some he
      simp only [Bool.and_eq_true, decide_eq_true_eq, Bool.not_eq_true', decide_eq_false_iff_not] at h
      obtain ⟨⟨⟨⟨⟨rfl, h2⟩, h3⟩, h4⟩, h5⟩, h6⟩ := h
      have hB := sB es X W sc l T tk hN hsc h6
      obtain ⟨s1, s2⟩ := chEs_star h6
      cases l with
      | nil => exact absurd (by rw [← s2]; rfl) h5
      | cons y r =>
        simp only [List.all_cons, Bool.and_eq_true] at s1
        exact bi_call (glC_ok hsc h2) (T.blt _ (hasB_ok h4)) T.calm hB (star_ok s1.1) (noStar_pl s1.2)
    · cases h
  | .isi a t, X, W, sc, x, T, tk, hN, hsc, h => by
    simp only [chE] at h
    split at h
    · next y z w he =>
      obtain ⟨pn, p, rfl⟩ := xCall_some he
      split at h
      · next u hu =>
        obtain ⟨pu, rfl⟩ := xName_some hu
        simp only [Bool.and_eq_true, decide_eq_true_eq] at h
        obtain ⟨⟨⟨⟨⟨⟨⟨⟨rfl, h2⟩, h3⟩, h4⟩, h5⟩, h6⟩, h7⟩, h8⟩, h9⟩ := h
        obtain ⟨t1, t2⟩ := tyB_ok h4
        exact po_isi t1 (sE a X W sc _ T tk hN hsc h9) (glC_ok hsc h2) (T.blt _ (hasB_ok h3)) (glC_ok hsc h5) (T.blt _ (hasB_ok h7)) t2 (notDbg3 h6) (notDbg1 h6) (star_ok h8) rfl
      · cases h
    · cases h
  | .m1 m a b, X, W, sc, x, T, tk, hN, hsc, h => by
    simp only [chE] at h
    split at h
    · next o n y l he =>
      obtain ⟨ap, p, rfl, hl⟩ := xMeth1_some he
      simp only [Bool.and_eq_true, decide_eq_true_eq] at h
      obtain ⟨⟨⟨⟨⟨rfl, h2⟩, h3⟩, h4⟩, h5⟩, h6⟩ := h
      exact m1_call (sE a X W sc _ T tk hN hsc h5) (sE b X W sc _ T tk hN hsc h6) (star_ok h4) (fun n => base_ok h3) (by rw [hl]; exact h2)
    · cases h
  | .lc t it c el, X, W, sc, x, T, tk, hN, hsc, h => by
    simp only [chE] at h
    split at h
    · next y tx i ifs scope p he =>
      have e1 := xLc_some he
      subst e1
      split at h
      · next own ho =>
        simp only [Bool.and_eq_true] at h
        obtain ⟨⟨⟨⟨⟨h1, h2⟩, h3⟩, h4⟩, h5⟩, h6⟩ := h
        have bk : BlkOk X.N X.env.scope scope own := by rw [hN, hsc]; exact blkOk_by h1
        refine po_lc T.calm T.nd (sI it X W sc i tx T tk hN hsc h4) bk ?_ (fun s H C cl fp => (pg_blk hN T.nd T.calm hsc ho h2).1) (fun s H C cl fp => ?_) (fun s H C cl fp => ?_) (set_ok h3)
        · exact (pg_blk (s := X.s_0) (H := X.H_0) (C := 0) (cl := []) (fp := []) hN T.nd T.calm hsc ho h2).2
        · exact sC c (X.blk s H scope (compEnvC scope cl C X.env) fp) W0 (relS scope sc) _ (T.blk ..) takes_blk hN (by rw [← hsc]; rfl) h5
        · exact po_nw (sE el (X.blk s H scope (compEnvC scope cl C X.env) fp) W0 (relS scope sc) _ (T.blk ..) takes_blk hN (by rw [← hsc]; rfl) h6)
      · cases h
    · cases h
theorem sT {k : Nat} {Γ : Gm} {N : List Str} : ∀ (e : E) (X : Cx) (W : WX) (sc : Scope) (x : Expr), Tb X k Γ → Takes X W → X.N = N → X.env.scope = sc → chT Γ.s N sc e x = true → PB X W x (evT Γ k e)
  | .and a b, X, W, sc, x, T, tk, hN, hsc, h => by
    simp only [chT] at h
    split at h
    · next op y z r p he =>
      have e1 := xBool_some he
      subst e1
      simp only [Bool.and_eq_true, decide_eq_true_eq] at h
      obtain ⟨⟨rfl, h1⟩, h2⟩ := h
      refine (pb_and (sT a X W sc _ T tk hN hsc h1) ?_).pt
      split at h2
      · exact pw_and1 (sT b X W sc _ T tk hN hsc h2)
      · exact pt_pw (sT b X W sc _ T tk hN hsc h2)
    · cases h
  | .or a b, X, W, sc, x, T, tk, hN, hsc, h => by
    simp only [chT] at h
    split at h
    · next op y z r p he =>
      have e1 := xBool_some he
      subst e1
      simp only [Bool.and_eq_true, decide_eq_true_eq] at h
      obtain ⟨⟨rfl, h1⟩, h2⟩ := h
      refine (pb_or (sT a X W sc _ T tk hN hsc h1) ?_).pt
      split at h2
      · exact pw_or1 (sT b X W sc _ T tk hN hsc h2)
      · exact pt_pw (sT b X W sc _ T tk hN hsc h2)
    · cases h
  | .not a, X, W, sc, x, T, tk, hN, hsc, h => by
    simp only [chT] at h
    split at h
    · next op y he =>
      obtain ⟨p, rfl⟩ := xUn_some he
      simp only [Bool.and_eq_true, decide_eq_true_eq] at h
      obtain ⟨rfl, h2⟩ := h
      exact pb_not (sT a X W sc _ T tk hN hsc h2)
    · cases h
  | .cmp o a b, X, W, sc, x, T, tk, hN, hsc, h => by
    simp only [chT] at h
    split at h
    · next l op r he =>
      obtain ⟨p, rfl⟩ := xCmp_some he
      simp only [Bool.and_eq_true] at h
      exact pb_cmp (co_nr o) (co_ok T.room h.1.1.1) (behind_ok h.1.1.2) (sE a X W sc l T tk hN hsc h.1.2) (sE b X W sc r T tk hN hsc h.2)
    · cases h
  | .isn n a, X, W, sc, x, T, tk, hN, hsc, h => by
    simp only [chT] at h
    split at h
    · simp only [Bool.and_eq_true, decide_eq_true_eq] at h
      obtain ⟨rfl, h2⟩ := h
      cases n with
      | true => exact pb_isnn (sE a X W sc _ T tk hN hsc h2)
      | false => exact pb_isn (sE a X W sc _ T tk hN hsc h2)
    · cases h
  | .v i, X, W, sc, x, T, tk, hN, hsc, h => by
    simp only [chT, Bool.and_eq_true] at h
    obtain ⟨hp, h⟩ := h
    split at h
    · next y hy =>
      obtain ⟨p, rfl⟩ := xName_some hy
      simp only [Bool.and_eq_true, decide_eq_true_eq] at h
      exact pb_val (po_v (by rw [hN]; exact h.1.1) (by rw [hsc]; exact visC_ok h.1.2) (notDbg1 h.2) (notDbg2 h.2)) (test_ok hp)
    · cases h
  | .call f es, X, W, sc, x, T, tk, hN, hsc, h => by
    simp only [chT, Bool.and_eq_true] at h
    obtain ⟨hp, h⟩ := h
    split at h
    · next y l he =>
      obtain ⟨pn, p, rfl⟩ := xCall_some he
      simp only [Bool.and_eq_true, decide_eq_true_eq] at h
      obtain ⟨⟨⟨⟨rfl, h2⟩, h3⟩, h4⟩, h5⟩ := h
      rw [evT_call]
      exact pb_val (callE T tk hsc h2 h3 h4 h5 (sD es X W sc l T tk hN hsc h5)) (test_ok hp)
    · cases h
  | .callb f es, X, W, sc, x, T, tk, hN, hsc, h => by
    simp only [chT, Bool.and_eq_true] at h
    obtain ⟨hp, h⟩ := h
    split at h
    · next y l he =>
      obtain ⟨pn, p, rfl⟩ := xCall_some he
      simp only [Bool.and_eq_true, decide_eq_true_eq, Bool.not_eq_true', decide_eq_false_iff_not] at h
      obtain ⟨⟨⟨⟨⟨rfl, h2⟩, h3⟩, h4⟩, h5⟩, h6⟩ := h
      rw [evT_callb]
      exact pb_val (callbE T tk hsc h2 h3 h4 h5 h6 (sB es X W sc l T tk hN hsc h6)) (test_ok hp)
    · cases h
  | .isi a t, X, W, sc, x, T, tk, hN, hsc, h => by
    simp only [chT, Bool.and_eq_true] at h
    obtain ⟨hp, h⟩ := h
    split at h
    · next y z w he =>
      obtain ⟨pn, p, rfl⟩ := xCall_some he
      split at h
      · next u hu =>
        obtain ⟨pu, rfl⟩ := xName_some hu
        simp only [Bool.and_eq_true, decide_eq_true_eq] at h
        obtain ⟨⟨⟨⟨⟨⟨⟨⟨rfl, h2⟩, h3⟩, h4⟩, h5⟩, h6⟩, h7⟩, h8⟩, h9⟩ := h
        obtain ⟨t1, t2⟩ := tyB_ok h4
        exact pb_val (po_isi t1 (sE a X W sc _ T tk hN hsc h9) (glC_ok hsc h2) (T.blt _ (hasB_ok h3)) (glC_ok hsc h5) (T.blt _ (hasB_ok h7)) t2 (notDbg3 h6) (notDbg1 h6) (star_ok h8) rfl) (test_ok hp)
      · cases h
    · cases h
  | .bi f es, X, W, sc, x, T, tk, hN, hsc, h => by
    simp only [chT, Bool.and_eq_true] at h
    obtain ⟨hp, h⟩ := h
    split at h
    · next y l he =>
      obtain ⟨pn, p, rfl⟩ := xCall_some he
      simp only [Bool.and_eq_true, decide_eq_true_eq, Bool.not_eq_true', decide_eq_false_iff_not] at h
      obtain ⟨⟨⟨⟨⟨rfl, h2⟩, h3⟩, h4⟩, h5⟩, h6⟩ := h
      have hB := sB es X W sc l T tk hN hsc h6
      obtain ⟨s1, s2⟩ := chEs_star h6
      cases l with
      | nil => exact absurd (by rw [← s2]; rfl) h5
      | cons y r =>
        simp only [List.all_cons, Bool.and_eq_true] at s1
        exact pb_val (bi_call (glC_ok hsc h2) (T.blt _ (hasB_ok h4)) T.calm hB (star_ok s1.1) (noStar_pl s1.2)) (test_ok hp)
    · cases h
  | .ix a b, X, W, sc, x, T, tk, hN, hsc, h => by
    simp only [chT, Bool.and_eq_true] at h
    obtain ⟨hp, h⟩ := h
    split at h
    · next y z he =>
      obtain ⟨p, rfl⟩ := xSub_some he
      simp only [Bool.and_eq_true] at h
      exact pb_val (po_ix (sE a X W sc y T tk hN hsc h.1.2) (sE b X W sc z T tk hN hsc h.2) (plain_ok h.1.1)) (test_ok hp)
    · cases h
  | .c d, X, W, sc, x, T, tk, hN, hsc, h => by
    simp only [chT, Bool.and_eq_true] at h
    obtain ⟨hp, h⟩ := h
    split at h
    · exact pb_val (pd_o (p := false) (cC_ok h)) (test_ok hp)
    · cases h
  | .g _, X, W, sc, x, T, tk, hN, hsc, h => by simp only [chT] at h; cases h
  | .bin _ _ _, X, W, sc, x, T, tk, hN, hsc, h => by simp only [chT] at h; cases h
  | .neg _, X, W, sc, x, T, tk, hN, hsc, h => by simp only [chT] at h; cases h
  | .ite _ _ _, X, W, sc, x, T, tk, hN, hsc, h => by simp only [chT] at h; cases h
  | .tup _, X, W, sc, x, T, tk, hN, hsc, h => by simp only [chT] at h; cases h
  | .lst _, X, W, sc, x, T, tk, hN, hsc, h => by simp only [chT] at h; cases h
  | .sl _ _ _, X, W, sc, x, T, tk, hN, hsc, h => by simp only [chT] at h; cases h
  | .m1 _ _ _, X, W, sc, x, T, tk, hN, hsc, h => by simp only [chT] at h; cases h
  | .lc _ _ _ _, X, W, sc, x, T, tk, hN, hsc, h => by simp only [chT] at h; cases h
theorem sN {k : Nat} {Γ : Gm} {N : List Str} : ∀ (e : Es) (X : Cx) (W : WX) (sc : Scope) (x : List Expr), Tb X k Γ → Takes X W → X.N = N → X.env.scope = sc → chEs Γ.s N sc e x = true → PNs X W x (evN Γ k e)
  | .nil, X, W, sc, x, T, tk, hN, hsc, h => by
    simp only [chEs] at h
    split at h
    · exact pns_nil
    · cases h
  | .cons a r, X, W, sc, x, T, tk, hN, hsc, h => by
    simp only [chEs] at h
    split at h
    · simp only [Bool.and_eq_true] at h
      exact pns_cons (po_nw (sE a X W sc _ T tk hN hsc h.1.2)) (sN r X W sc _ T tk hN hsc h.2) (star_ok h.1.1)
    · cases h
theorem sD {k : Nat} {Γ : Gm} {N : List Str} : ∀ (e : Es) (X : Cx) (W : WX) (sc : Scope) (x : List Expr), Tb X k Γ → Takes X W → X.N = N → X.env.scope = sc → chEs Γ.s N sc e x = true → PDs X W x (evD Γ k e)
  | .nil, X, W, sc, x, T, tk, hN, hsc, h => by
    simp only [chEs] at h
    split at h
    · exact pds_nil
    · cases h
  | .cons a r, X, W, sc, x, T, tk, hN, hsc, h => by
    simp only [chEs] at h
    split at h
    · simp only [Bool.and_eq_true] at h
      exact pds_cons (po_d (sE a X W sc _ T tk hN hsc h.1.2)) (sD r X W sc _ T tk hN hsc h.2) (star_ok h.1.1)
    · cases h
theorem sB {k : Nat} {Γ : Gm} {N : List Str} : ∀ (e : Es) (X : Cx) (W : WX) (sc : Scope) (x : List Expr), Tb X k Γ → Takes X W → X.N = N → X.env.scope = sc → chEs Γ.s N sc e x = true → POs X W x (evB Γ k e)
  | .nil, X, W, sc, x, T, tk, hN, hsc, h => by
    simp only [chEs] at h
    split at h
    · exact pos_nil
    · cases h
  | .cons a r, X, W, sc, x, T, tk, hN, hsc, h => by
    simp only [chEs] at h
    split at h
    · simp only [Bool.and_eq_true] at h
      exact pos_cons (sE a X W sc _ T tk hN hsc h.1.2) (sB r X W sc _ T tk hN hsc h.2) (star_ok h.1.1)
    · cases h
theorem sP {k : Nat} {Γ : Gm} {N : List Str} : ∀ (e : Eo) (X : Cx) (W : WX) (sc : Scope) (x : Option Expr), Tb X k Γ → Takes X W → X.N = N → X.env.scope = sc → chO Γ.s N sc e x = true → PP X W x (evP Γ k e)
  | .no, X, W, sc, x, T, tk, hN, hsc, h => by
    simp only [chO] at h
    split at h
    · exact pp_none
    · cases h
  | .so a, X, W, sc, x, T, tk, hN, hsc, h => by
    simp only [chO] at h
    split at h
    · exact pp_some (sE a X W sc _ T tk hN hsc h)
    · cases h
theorem sC {k : Nat} {Γ : Gm} {N : List Str} : ∀ (e : Eo) (X : Cx) (W : WX) (sc : Scope) (x : List Expr), Tb X k Γ → Takes X W → X.N = N → X.env.scope = sc → chC Γ.s N sc e x = true → PBs X W x (evC Γ k e)
  | .no, X, W, sc, x, T, tk, hN, hsc, h => by
    simp only [chC] at h
    split at h
    · exact pts_yes
    · cases h
  | .so c, X, W, sc, x, T, tk, hN, hsc, h => by
    simp only [chC] at h
    split at h
    · exact pts_one (sT c X W sc _ T tk hN hsc h)
    · cases h
theorem sI {k : Nat} {Γ : Gm} {N : List Str} : ∀ (e : It) (X : Cx) (W : WX) (sc : Scope) (x tg : Expr), Tb X k Γ → Takes X W → X.N = N → X.env.scope = sc → chI Γ.s N sc e x = true → PIt X W true tg x (evI Γ k e)
  | .any a, X, W, sc, x, tg, T, tk, hN, hsc, h => by
    simp only [chI] at h
    exact pit_own (sE a X W sc _ T tk hN hsc h)
  | .rng es, X, W, sc, x, tg, T, tk, hN, hsc, h => by
    simp only [chI] at h
    split at h
    · next y l he =>
      obtain ⟨pn, p, rfl⟩ := xCall_some he
      simp only [Bool.and_eq_true, decide_eq_true_eq, Bool.or_eq_true] at h
      obtain ⟨⟨⟨⟨rfl, h2⟩, h3⟩, h4⟩, h5⟩ := h
      exact rngI (glC_ok hsc h2) (T.blt _ (hasB_ok h3)) (sB es X W sc l T tk hN hsc h5) (chEs_star h5) h4
    · cases h
end
end Mw
/-! Mt1: statements as a small tree; what they do; the look at their text. -/
namespace Mw
open PySem PySem.Spec PyProof.Rows L2

inductive Mu where
  | app | ins | rev | clr
  deriving DecidableEq
mutual
inductive S where
  | ex (e : E) | set (i : Nat) (e : E) | setLc (i : Nat) (t : Tg) (it : It) (c : Eo) (e : E)
  | ret (e : E) | retV (i : Nat) | retN
  | ite (c : E) (a b : Ss) | fr (t : Tg) (it : It) (b : Ss) | whl (c : E) (b : Ss) | brk | cnt | pass
  | mut (m : Mu) (p : E) (es : Es) | put (p k e : E)
  | giv (i : Nat) (s : S)
  | raise (x : Str)
inductive Ss where
  | nil | cons (s : S) (r : Ss)
end
def mu : Mu → List O → List O → Option (List O)
  | .app => mApp | .ins => mIns | .rev => mRev | .clr => mClr
def evPa (Γ : Gm) (k : Nat) : E → Ro → Rz (Nat × List Nat)
  | .v i => paV i
  | .ix p e => paIx (evPa Γ k p) (ev Γ k e)
  | _ => fun _ => .st
mutual
def evS (Γ : Gm) (k : Nat) : S → Ro → Rs
  | .ex e => sEx (ev Γ k e)
  | .set i e => sSet i (nw (pth e) (ev Γ k e))
  | .setLc i t it c e => sSet i (oLc t (evC Γ k c) (nw (pth e) (ev Γ k e)) (evI Γ k it))
  | .ret e => sRet (nw (pth e) (ev Γ k e))
  | .retV i => sRetV i
  | .retN => fun ρ => .rt (.fz .none) ρ
  | .ite c a b => sIf (evT Γ k c) (evSs Γ k a) (evSs Γ k b)
  | .fr t it b => sFor t (evF Γ k it) (evSs Γ k b)
  | .whl c b => whlL (evT Γ k c) (evSs Γ k b) Γ.fuel
  | .brk => fun ρ => .bk ρ
  | .cnt => fun ρ => .ct ρ
  | .pass => fun ρ => .nx ρ
  | .mut m p es => sMut (evPa Γ k p) (evN Γ k es) (mu m)
  | .put p i e => sPut (evPa Γ k p) (ev Γ k i) (nw (pth e) (ev Γ k e))
  | .giv i s => fun ρ => evS Γ k s (givR i ρ)
  | .raise x => fun ρ => .rs x ρ
def evSs (Γ : Gm) (k : Nat) : Ss → Ro → Rs
  | .nil => fun ρ => .nx ρ
  | .cons s r => sSeq (evS Γ k s) (evSs Γ k r)
end

/-! ### the look -/
def isPa : E → Bool
  | .v _ => true
  | .ix a _ => isPa a
  | _ => false
def noComp : Expr → Bool
  | .ListComp _ _ _ _ => false
  | .SetComp _ _ _ _ => false
  | .DictComp _ _ _ _ _ => false
  | _ => true
/-- no swap of the comprehension with the name y -/
def swN (e : Expr) (y : Str) (py : Pos) (sc : Scope) : Bool := match e with
  | .ListComp _ _ scope pos => !(decide (sc.names.lookup y = some .local) && py.line == pos.line && !(scope.names.any fun p => p.1 == y && (p.2 == .local || p.2 == .cell)))
  | .SetComp _ _ _ _ => false
  | .DictComp _ _ _ _ _ => false
  | _ => true
theorem swN_ok {e : Expr} {y : Str} {py : Pos} {sc : Scope} {l : Nat} {env : Env} (h : swN e y py sc = true) (hs : env.scope = sc) (hk : sc.kind = .function) : swapsWith e (some (.Name y py)) l env = pure false := by
  cases e with
  | ListComp el gs scope pos =>
    simp only [swN, Bool.not_eq_true', Bool.and_eq_false_iff] at h
    have ky : env.kindOf y = sc.names.lookup y := by rw [← hs]; rfl
    have hb : env.blockKind = .function := by unfold Env.blockKind; rw [hs, hk]; rfl
    unfold swapsWith
    simp only [hb, ky, Expr.pos]
    rcases h with (h | h) | h
    · have : (sc.names.lookup y == some NameKind.local) = false := by
        cases e : sc.names.lookup y with
        | none => rfl
        | some n =>
          rw [e] at h
          cases n <;> first | rfl | simp at h
      rw [this]; rfl
    · rw [h]; simp
    · rw [show (scope.names.any fun (x : Str × NameKind) => x.1 == y && (x.2 == NameKind.local || x.2 == NameKind.cell)) = true by simpa using h]
      simp
  | SetComp => simp [swN] at h
  | DictComp => simp [swN] at h
  | _ => rfl
theorem noComp_ok {e : Expr} {l : Nat} {env : Env} (h : noComp e = true) : swapsWith e none l env = pure false := by
  cases e <;> first | rfl | simp [noComp] at h
theorem sole_sub {o i e : Expr} {sp : Pos} {l : Nat} {env : Env} : swapsWithSole [.Subscript o i sp] e l env = pure false := by
  cases e <;> rfl
theorem stores_sub {o i e : Expr} {sp : Pos} {env : Env} : swappedStores [.Subscript o i sp] e env = pure none := by
  cases e <;> rfl
def muN : Mu → Str
  | .app => "append" | .ins => "insert" | .rev => "reverse" | .clr => "clear"
/-- o.name(args) as a statement on one line -/
def xMut : Stmt → Option (Expr × Str × List Expr × Bool)
  | .Expr (.Call (.Attribute o n ap) es [] p) _ => some (o, n, es, ap.endLine == p.line)
  | _ => none
theorem xMut_some {s : Stmt} {o : Expr} {n : Str} {es : List Expr} {b : Bool} (h : xMut s = some (o, n, es, b)) : ∃ ap p q, s = .Expr (.Call (.Attribute o n ap) es [] p) q ∧ (ap.endLine == p.line) = b := by
  unfold xMut at h
  split at h
  · cases h; exact ⟨_, _, _, rfl, rfl⟩
  · cases h
def xSetN : Stmt → Option (Str × Pos × Expr × Pos)
  | .Assign [.Name y py] e p => some (y, py, e, p)
  | _ => none
theorem xSetN_some {s : Stmt} {y : Str} {py : Pos} {e : Expr} {p : Pos} (h : xSetN s = some (y, py, e, p)) : s = .Assign [.Name y py] e p := by
  unfold xSetN at h
  split at h
  · cases h; rfl
  · cases h
def xPut : Stmt → Option (Expr × Expr × Expr)
  | .Assign [.Subscript o i _] e _ => some (o, i, e)
  | _ => none
theorem xPut_some {s : Stmt} {o i e : Expr} (h : xPut s = some (o, i, e)) : ∃ sp p, s = .Assign [.Subscript o i sp] e p := by
  unfold xPut at h
  split at h
  · cases h; exact ⟨_, _, rfl⟩
  · cases h
def xRaise : Stmt → Option Str
  | .Raise (some (.Call (.Name x _) [.Constant (.str _) _ _] [] _)) none _ => some x
  | _ => none
theorem xRaise_some {s : Stmt} {x : Str} (h : xRaise s = some x) : ∃ pn m j p2 p3 pos, s = .Raise (some (.Call (.Name x pn) [.Constant (.str m) j p2] [] p3)) none pos := by
  unfold xRaise at h
  split at h
  · cases h; exact ⟨_, _, _, _, _, _, rfl⟩
  · cases h
def frB (md : List Bool) (i : Nat) : Bool := match md[i]? with
  | some true => false
  | _ => true
theorem frB_ok {md : List Bool} {i : Nat} (h : frB md i = true) : md[i]? ≠ some true := fun e => by
  unfold frB at h
  rw [e] at h
  cases h
/-- a name that is stored: its slot, its kind -/
def stoB (N : List Str) (sc : Scope) (md : List Bool) (i : Nat) (y : Str) : Bool := decide (N[i]? = some y) && frB md i && (match sc.names.lookup y with
  | some .local => true
  | some .cell => true
  | _ => false)
def tgS (N : List Str) (sc : Scope) (md : List Bool) (own : List (Str × Nat)) : Bool := own.all fun p => stoB N sc md p.2 p.1
mutual
def chS (Γ : Gs) (N : List Str) (sc : Scope) (md : List Bool) : S → Stmt → Bool
  | .ex e, s => match s with | .Expr x _ => noComp x && chE Γ N sc e x | _ => false
  | .set i e, s => match xSetN s with | some (y, py, x, _) => stoB N sc md i y && swN x y py sc && chE Γ N sc e x | none => false
  | .setLc i t it c el, s => match xSetN s with
    | some (y, py, x, _) => stoB N sc md i y && decide (sc.names.lookup y = some .local) && (match xLc x with
      | some (x, tx, i, ifs, scope, p) => (match xTg t tx with
        | some own => (py.line == p.line) && !(scope.names.any fun p => p.1 == y && (p.2 == .local || p.2 == .cell)) && blkC N sc scope own && tgB N scope own && noSet i && chI Γ N sc it i && chC Γ N (relS scope sc) c ifs && chE Γ N (relS scope sc) el x
        | none => false)
      | none => false)
    | none => false
  | .ret e, s => match s with | .Return (some x) _ => chE Γ N sc e x | _ => false
  | .retV i, s => match s with | .Return (some x) _ => (match xName x with | some y => decide (N[i]? = some y) && visC sc y && notDbg y | none => false) | _ => false
  | .retN, s => match s with | .Return none _ => true | _ => false
  | .ite c a b, s => match s with | .If x l1 l2 _ => chT Γ N sc c x && chSs Γ N sc md a l1 && chSs Γ N sc md b l2 | _ => false
  | .fr t it b, s => match s with
    | .For tx x l [] _ => (match xTg t tx with
      | some own => tgS N sc md own && noSet x && chI Γ N sc it x && chSs Γ N sc md b l
      | none => false)
    | _ => false
  | .whl c b, s => match s with | .While x l [] _ => chT Γ N sc c x && chSs Γ N sc md b l | _ => false
  | .brk, s => match s with | .Break _ => true | _ => false
  | .cnt, s => match s with | .Continue _ => true | _ => false
  | .pass, s => match s with | .Pass _ => true | _ => false
  | .mut m p es, s => match xMut s with
    | some (o, n, l, b) => decide (n = muN m) && b && noCallBase o && isPa p && decide (lenE es < 20) && chE Γ N sc p o && chEs Γ N sc es l
    | none => false
  | .put p k e, s => match xPut s with
    | some (o, i, x) => isPa p && noSlice i && chE Γ N sc p o && chE Γ N sc k i && chE Γ N sc e x
    | none => false
  | .giv _ t, s => chS Γ N sc md t s
  | .raise x, s => match xRaise s with | some y => decide (y = x) && glC sc x && notDbg x && hasB Γ.ex x | none => false
def chSs (Γ : Gs) (N : List Str) (sc : Scope) (md : List Bool) : Ss → List Stmt → Bool
  | .nil, l => match l with | [] => true | _ => false
  | .cons s r, l => match l with | x :: l => chS Γ N sc md s x && chSs Γ N sc md r l | [] => false
end
end Mw
/-! Mt2: the soundness of statements. -/
namespace Mw
open PySem PySem.Spec PyProof.Rows L2

/-- what is known of an exception's class -/
structure ExK (K : KF) (C : Addr) : Prop where
  ex : PySem.W.excIn K C He.veBase "ValueError.__new__" = true
  kp : PySem.W.keepIn K (.ref C) = true
  sb : PySem.W.subIn K (.ref C) (.type "BaseException") = some true
  ty : PySem.W.typeIn K (.ref C) = some (.type "type")
/-- where a statement stands -/
structure Ct (X : Cx) (W : WX) (β : Bt) (k : Nat) (Γ : Gm) (N : List Str) (sc : Scope) (md : List Bool) : Prop where
  T : Tb X k Γ
  tk : Takes X W
  hN : X.N = N
  hsc : X.env.scope = sc
  fn : X.fn = fun _ => true
  own : PassesOwn (model X.prog X.w) X.A X.env X.xe
  kf : sc.kind = .function
  hmd : β.md = md
  exs : ∀ x ∈ Γ.s.ex, ∃ C, X.mg x = some (.ref C) ∧ ExK X.K C
section
variable {X : Cx} {W : WX} {β : Bt} {k : Nat} {Γ : Gm} {N : List Str} {sc : Scope} {md : List Bool}
theorem sPa (T : Tb X k Γ) (tk : Takes X W) (hN : X.N = N) (hsc : X.env.scope = sc) : ∀ (e : E) (x : Expr), isPa e = true → chE Γ.s N sc e x = true → PPa X W x (evPa Γ k e)
  | .v i, x, _, h => by
    simp only [chE] at h
    split at h
    · next y hy =>
      obtain ⟨p, rfl⟩ := xName_some hy
      simp only [Bool.and_eq_true, decide_eq_true_eq] at h
      exact ppa_v (by rw [hN]; exact h.1.1) (by rw [hsc]; exact visC_ok h.1.2) (notDbg1 h.2) (notDbg2 h.2)
    · cases h
  | .ix a b, x, hp, h => by
    simp only [chE] at h
    split at h
    · next y z he =>
      obtain ⟨p, rfl⟩ := xSub_some he
      simp only [Bool.and_eq_true] at h
      exact ppa_ix (sPa T tk hN hsc a y (by simpa [isPa] using hp) h.1.2) (sE b X W sc z T tk hN hsc h.2) (plain_ok h.1.1)
    · cases h
  | .c _, _, h, _ | .g _, _, h, _ | .bin _ _ _, _, h, _ | .cmp _ _ _, _, h, _ | .isn _ _, _, h, _ | .neg _, _, h, _ | .not _, _, h, _ | .and _ _, _, h, _ | .or _ _, _, h, _ | .ite _ _ _, _, h, _
  | .tup _, _, h, _ | .lst _, _, h, _ | .sl _ _ _, _, h, _ | .call _ _, _, h, _ | .callb _ _, _, h, _ | .bi _ _, _, h, _ | .isi _ _, _, h, _ | .m1 _ _ _, _, h, _ | .lc _ _ _ _, _, h, _ => by simp [isPa] at h
theorem stoB_ok {i : Nat} {y : Str} (hN : X.N = N) (hsc : X.env.scope = sc) (hmd : β.md = md) (h : stoB N sc md i y = true) : X.N[i]? = some y ∧ Fr β i ∧ Loc X.env.scope y := by
  simp only [stoB, Bool.and_eq_true, decide_eq_true_eq] at h
  refine ⟨by rw [hN]; exact h.1.1, by unfold Fr; rw [hmd]; exact frB_ok h.1.2, ?_⟩
  have h2 := h.2
  rw [hsc]
  split at h2
  · next e => exact .inl e
  · next e => exact .inr e
  · cases h2
theorem sF (C : Ct X W β k Γ N sc md) : ∀ (e : It) (x tg : Expr), chI Γ.s N sc e x = true → PIt X W false tg x (evF Γ k e)
  | .any a, x, tg, h => by
    simp only [chI] at h
    exact pit_known (po_d (sE a X W sc x C.T C.tk C.hN C.hsc h))
  | .rng es, x, tg, h => by
    simp only [chI] at h
    split at h
    · next y l he =>
      obtain ⟨pn, p, rfl⟩ := xCall_some he
      simp only [Bool.and_eq_true, decide_eq_true_eq, Bool.or_eq_true] at h
      obtain ⟨⟨⟨⟨rfl, h2⟩, h3⟩, h4⟩, h5⟩ := h
      exact rngI (glC_ok C.hsc h2) (C.T.blt _ (hasB_ok h3)) (sB es X W sc l C.T C.tk C.hN C.hsc h5) (chEs_star h5) h4
    · cases h
theorem few_ok {l : List Expr} {pos : Pos} {env : Env} (h : l.all noStar = true) (hl : l.length < 20) :
    ((backTo pos (starEach l env)).all (fun x => !x.1) && (backToKw pos (keywordEach [] env)).all (fun x => x.1.isSome) && decide (l.length + ([] : List Keyword).length + (if ([] : List Keyword).isEmpty then 0 else 1) < 30)) = true := by
  have h1 : (backTo pos (starEach l env)).all (fun x => !x.1) = true := by
    clear hl
    induction l with
    | nil => rfl
    | cons e r ih =>
      simp only [List.all_cons, Bool.and_eq_true] at h
      rw [star_ok h.1]
      show (!false && (backTo pos (starEach r env)).all (fun x => !x.1)) = true
      rw [ih h.2]
      rfl
  rw [h1]
  simp [keywordEach, backToKw]
  omega
theorem assign_sub {o i : Expr} {sp : Pos} {env : Env} (h : noSlice i = true) : ∀ v, assign (.Subscript o i sp) env v = (do
    let ov ← holding [v] (eval o env)
    let iv ← holding [v, ov] (eval i env)
    standAt sp
    holding [v, ov, iv] (setItem ov iv v)
    release [v, ov, iv] []) := by
  intro v
  cases i <;> first | rfl | cases h
theorem call_noComp {f : Expr} {as : List Expr} {p : Pos} {l : Nat} {env : Env} : swapsWith (.Call f as [] p) none l env = pure false := rfl
end
mutual
theorem sS {β : Bt} {k : Nat} {Γ : Gm} {N : List Str} {sc : Scope} {md : List Bool} {X : Cx} {W : WX} (C : Ct X W β k Γ N sc md) : ∀ (s : S) (st : Stmt), chS Γ.s N sc md s st = true → PF X W β st (evS Γ k s)
  | .ex e, st, h => by
    simp only [chS] at h
    split at h
    · next x p =>
      simp only [Bool.and_eq_true] at h
      simp only [evS]
      exact pf_ex (sE e X W sc x C.T C.tk C.hN C.hsc h.2) (noComp_ok h.1)
    · cases h
  | .set i e, st, h => by
    simp only [chS] at h
    split at h
    · next y py x p he =>
      have e1 := xSetN_some he
      subst e1
      simp only [Bool.and_eq_true] at h
      obtain ⟨h1, h2, h3⟩ := stoB_ok C.hN C.hsc C.hmd h.1.1
      simp only [evS]
      exact pf_set h2 C.T.nd h1 h3 (po_nw (sE e X W sc x C.T C.tk C.hN C.hsc h.2)) (swN_ok h.1.2 C.hsc C.kf) (.inl (by rw [C.fn]))
    · cases h
  | .setLc i t it c el, st, h => by
    simp only [chS] at h
    split at h
    · next y py x p he =>
      have e1 := xSetN_some he
      subst e1
      simp only [Bool.and_eq_true, decide_eq_true_eq] at h
      obtain ⟨h0, h⟩ := h
      obtain ⟨h1, h2, h3⟩ := stoB_ok C.hN C.hsc C.hmd h0.1
      split at h
      · next x2 tx ie ifs scope p2 hx =>
        have e2 := xLc_some hx
        subst e2
        split at h
        · next own ho =>
          simp only [Bool.and_eq_true, Bool.not_eq_true'] at h
          obtain ⟨⟨⟨⟨⟨⟨⟨g1, g2⟩, g3⟩, g4⟩, g5⟩, g6⟩, g7⟩, g8⟩ := h
          have bk : BlkOk X.N X.env.scope scope own := by rw [C.hN, C.hsc]; exact blkOk_by g3
          simp only [evS]
          refine pf_setLc h2 C.T.calm C.T.nd h1 (by rw [C.hsc]; exact h0.2) (sw_true (by rw [C.hsc]; exact C.kf) (by rw [C.hsc]; exact h0.2) g1 g2) (sI it X W sc ie tx C.T C.tk C.hN C.hsc g6) bk ?_ (fun s H D cl fp => (pg_blk C.hN C.T.nd C.T.calm C.hsc ho g4).1) (fun s H D cl fp => ?_) (fun s H D cl fp => ?_) (set_ok g5)
          · exact (pg_blk (s := X.s_0) (H := X.H_0) (C := 0) (cl := []) (fp := []) C.hN C.T.nd C.T.calm C.hsc ho g4).2
          · exact sC c (X.blk s H scope (compEnvC scope cl D X.env) fp) W0 (relS scope sc) _ (C.T.blk ..) takes_blk C.hN (by rw [← C.hsc]; rfl) g7
          · exact po_nw (sE el (X.blk s H scope (compEnvC scope cl D X.env) fp) W0 (relS scope sc) _ (C.T.blk ..) takes_blk C.hN (by rw [← C.hsc]; rfl) g8)
        · cases h
      · cases h
    · cases h
  | .ret e, st, h => by
    simp only [chS] at h
    split at h
    · next x p =>
      simp only [evS]
      exact pf_ret (po_nw (sE e X W sc x C.T C.tk C.hN C.hsc h))
    · cases h
  | .retV i, st, h => by
    simp only [chS] at h
    split at h
    · next x p =>
      split at h
      · next y hy =>
        obtain ⟨q, rfl⟩ := xName_some hy
        simp only [Bool.and_eq_true, decide_eq_true_eq] at h
        simp only [evS]
        exact pf_retV (by rw [C.hN]; exact h.1.1) (by rw [C.hsc]; exact visC_ok h.1.2) (notDbg1 h.2) (notDbg2 h.2)
      · cases h
    · cases h
  | .retN, st, h => by
    simp only [chS] at h
    split at h
    · simp only [evS]
      exact pf_retN
    · cases h
  | .ite c a b, st, h => by
    simp only [chS] at h
    split at h
    · next x l1 l2 p =>
      simp only [Bool.and_eq_true] at h
      simp only [evS]
      exact pf_if (sT c X W sc x C.T C.tk C.hN C.hsc h.1.1) (sSs C a l1 h.1.2) (sSs C b l2 h.2)
    · cases h
  | .fr t it b, st, h => by
    simp only [chS] at h
    split at h
    · next tx x l p =>
      split at h
      · next own ho =>
        simp only [Bool.and_eq_true] at h
        obtain ⟨⟨⟨h1, h2⟩, h3⟩, h4⟩ := h
        have ok : ∀ p ∈ own, N[p.2]? = some p.1 ∧ Loc X.env.scope p.1 ∧ (X.fn p.1 = true ∨ X.env.scope.names.lookup p.1 = some .local) := fun p hp => by
          obtain ⟨g1, g2, g3⟩ := stoB_ok C.hN C.hsc C.hmd (List.all_eq_true.mp h1 p hp)
          exact ⟨by rw [← C.hN]; exact g1, g3, .inl (by rw [C.fn])⟩
        obtain ⟨pg, pis⟩ := pg_tg C.hN C.T.nd C.T.calm ho ok
        simp only [evS]
        refine pf_for (fun i hi => ?_) C.own C.T.calm (sF C it x tx h3) pg (sSs C b l h4) (set_ok h2)
        rw [← pis] at hi
        obtain ⟨p, hp, rfl⟩ := List.mem_map.mp hi
        exact (stoB_ok C.hN C.hsc C.hmd (List.all_eq_true.mp h1 p hp)).2.1
      · cases h
    · cases h
  | .whl c b, st, h => by
    simp only [chS] at h
    split at h
    · next x l p =>
      simp only [Bool.and_eq_true] at h
      simp only [evS]
      exact pf_while C.own (sT c X W sc x C.T C.tk C.hN C.hsc h.1) (sSs C b l h.2)
    · cases h
  | .brk, st, h => by
    simp only [chS] at h
    split at h
    · simp only [evS]; exact pf_break
    · cases h
  | .cnt, st, h => by
    simp only [chS] at h
    split at h
    · simp only [evS]; exact pf_continue
    · cases h
  | .pass, st, h => by
    simp only [chS] at h
    split at h
    · simp only [evS]; exact pf_pass
    · cases h
  | .mut m p es, st, h => by
    simp only [chS] at h
    split at h
    · next o n l b he =>
      obtain ⟨ap, q, r, rfl, hl⟩ := xMut_some he
      simp only [Bool.and_eq_true, decide_eq_true_eq] at h
      obtain ⟨⟨⟨⟨⟨⟨rfl, h2⟩, h3⟩, h4⟩, h5⟩, h6⟩, h7⟩ := h
      have hP := sPa C.T C.tk C.hN C.hsc p o h4 h6
      have hA := sN es X W sc l C.T C.tk C.hN C.hsc h7
      obtain ⟨s1, s2⟩ := chEs_star h7
      have hline : (ap.endLine == q.line) = true := by rw [hl]; exact h2
      simp only [evS]
      cases l with
      | nil =>
        have e0 : es = .nil := by
          cases es with
          | nil => rfl
          | cons _ _ => simp [lenE] at s2
        subst e0
        have e1 : evN Γ k .nil = fun _ => .ok [] := by simp only [evN]
        rw [e1]
        cases m with
        | app => exact pf_mut0 mut_app PySem.F.slot_list_append PySem.F.type_list_append hP (base_ok h3) hline rfl
        | ins => exact pf_mut0 mut_ins PySem.F.slot_list_insert PySem.F.type_list_insert hP (base_ok h3) hline rfl
        | rev => exact pf_mut0 mut_rev PySem.F.slot_list_reverse PySem.F.type_list_reverse hP (base_ok h3) hline rfl
        | clr => exact pf_mut0 mut_clr PySem.F.slot_list_clear PySem.F.type_list_clear hP (base_ok h3) hline rfl
      | cons a r =>
        have hf := few_ok (pos := q) (env := X.env) s1 (by rw [s2]; exact h5)
        simp only [List.all_cons, Bool.and_eq_true] at s1
        cases m with
        | app => exact pf_mut mut_app PySem.F.slot_list_append PySem.F.type_list_append hP hA (base_ok h3) hf hline (star_ok s1.1) (noStar_pl s1.2) rfl
        | ins => exact pf_mut mut_ins PySem.F.slot_list_insert PySem.F.type_list_insert hP hA (base_ok h3) hf hline (star_ok s1.1) (noStar_pl s1.2) rfl
        | rev => exact pf_mut mut_rev PySem.F.slot_list_reverse PySem.F.type_list_reverse hP hA (base_ok h3) hf hline (star_ok s1.1) (noStar_pl s1.2) rfl
        | clr => exact pf_mut mut_clr PySem.F.slot_list_clear PySem.F.type_list_clear hP hA (base_ok h3) hf hline (star_ok s1.1) (noStar_pl s1.2) rfl
    · cases h
  | .put p i e, st, h => by
    simp only [chS] at h
    split at h
    · next o ix x he =>
      obtain ⟨sp, q, rfl⟩ := xPut_some he
      simp only [Bool.and_eq_true] at h
      obtain ⟨⟨⟨⟨h1, h2⟩, h3⟩, h4⟩, h5⟩ := h
      have hP := sPa C.T C.tk C.hN C.hsc p o h1 h3
      have hI := sE i X W sc ix C.T C.tk C.hN C.hsc h4
      simp only [evS]
      exact pf_put (po_nw (sE e X W sc x C.T C.tk C.hN C.hsc h5)) hP hI (pg_sub hP hI set_list (assign_sub h2)) sole_sub stores_sub
    · cases h
  | .giv i s, st, h => by
    simp only [chS] at h
    simp only [evS]
    exact PS.wk (sS C s st h) fun D σ H ⟨ρ, G, t, hq⟩ => by
      obtain ⟨G', t', l⟩ := t.give i
      exact ⟨givR i ρ, G', t', eS.up hq l⟩
  | .raise x, st, h => by
    simp only [chS] at h
    split at h
    · next y he =>
      obtain ⟨pn, m, j, p2, p3, pos, rfl⟩ := xRaise_some he
      simp only [Bool.and_eq_true, decide_eq_true_eq] at h
      obtain ⟨⟨⟨rfl, h2⟩, h3⟩, h4⟩ := h
      obtain ⟨A, a1, a2⟩ := C.exs _ (hasB_ok h4)
      simp only [evS]
      exact pf_raise C.T.calm C.tk PySem.F.excBase_ValueError a2.ex a1 a2.kp (raises_own a2.sb a2.ty) (glC_ok C.hsc h2) (notDbg1 h3)
    · cases h
theorem sSs {β : Bt} {k : Nat} {Γ : Gm} {N : List Str} {sc : Scope} {md : List Bool} {X : Cx} {W : WX} (C : Ct X W β k Γ N sc md) : ∀ (s : Ss) (st : List Stmt), chSs Γ.s N sc md s st = true → PFs X W β st (evSs Γ k s)
  | .nil, st, h => by
    simp only [chSs] at h
    split at h
    · simp only [evSs]; exact pf_nil
    · cases h
  | .cons s r, st, h => by
    simp only [chSs] at h
    split at h
    · next x l =>
      simp only [Bool.and_eq_true] at h
      simp only [evSs]
      exact pf_cons (sS C s x h.1) (sSs C r l h.2)
    · cases h
end
end Mw
/-! Mt3: a module of defs; its run, by levels; what the top has written; the law's end. -/
namespace Mw
open PySem PySem.Spec PyProof.Rows L2

structure De where
  st : Stmt
  name : Str
  N : List Str
  ps : List Str
  md : List Bool
  body : Ss
structure Mo where
  bl : List Str
  gs : List (Str × Str)
  gi : List (Str × Int)
  ex : List Str
  fuel : Nat
  ds : List De
def Mo.gl (M : Mo) : List (Str × D) := M.gs.map (fun p => (p.1, .str p.2)) ++ M.gi.map fun p => (p.1, .int p.2)
def Mo.s (M : Mo) : Gs := ⟨M.bl, M.gl, M.ds.map fun d => (d.name, d.md), M.ex⟩
def gm (M : Mo) (r : Str → List D → List O → Rl) : Gm := ⟨M.s, M.fuel, fun _ => r⟩
def runM (M : Mo) : Nat → Str → List D → List O → Rl
  | 0 => fun _ _ _ => .st
  | k + 1 => fun f => match M.ds.find? (fun d => decide (d.name = f)) with
    | none => fun _ _ => .st
    | some d => fnR d.N.length d.md (evSs (gm M (runM M k)) k d.body)
def fsC (N P : List Str) (sc : Scope) : Bool := decide (sc.kind = .function) && !sc.isCoroutine && !sc.isGenerator && decide N.Nodup && decide (N.take P.length = P) && (P.all fun x => match sc.names.lookup x with
    | some .local => true
    | some .cell => true
    | _ => false) && sc.names.all fun y => decide (y.2 ≠ .free)
theorem fsC_ok {N P : List Str} {sc : Scope} (h : fsC N P sc = true) : FnScope N P sc := by
  simp only [fsC, Bool.and_eq_true, decide_eq_true_eq, Bool.not_eq_true'] at h
  obtain ⟨⟨⟨⟨⟨⟨h1, h2⟩, h3⟩, h4⟩, h5⟩, h6⟩, h7⟩ := h
  refine ⟨h1, h2, h3, h4, h5, fun x hx => ?_, fun y hy => by simpa using List.all_eq_true.mp h7 y hy⟩
  have := List.all_eq_true.mp h6 x hx
  split at this
  · next e => exact .inl e
  · next e => exact .inr e
  · cases this
def De.ok (s : Gs) (d : De) : Bool := fsC d.N d.ps (defScope d.st) && decide (d.md.length = d.ps.length) && chSs s d.N (defScope d.st) d.md d.body (defBody d.st)
def Mo.ok (M : Mo) : Bool := decide (M.ds.map (·.name)).Nodup && M.ds.all (De.ok M.s)
/-- its arguments bind, one behind the other -/
def BindOk (d : De) : Prop := ∀ (kV doc pm : Value) (an : Option Addr) (cdv ct : Value) (us : List Value), us.length = d.ps.length → bindArgs (PySem.W.fnOf d.name d.name (defArgs d.st) (defBody d.st) (defScope d.st) .none kV doc pm an cdv ct) ⟨us, []⟩ = pure (d.ps.zip us)
/-- what the top has written -/
structure Wr (M : Mo) (K : KF) (mg : Mg) : Prop where
  blt : ∀ x ∈ M.bl, mg x = none
  str : ∀ p ∈ M.gs, ∃ t, mg p.1 = some (.str p.2 t)
  int : ∀ p ∈ M.gi, ∃ t, mg p.1 = some (.int p.2 t)
  fns : ∀ d ∈ M.ds, ∃ f fd, mg d.name = some (.ref f) ∧ Fun K d.name d.name d.st f fd ∧ Binds K fd d.ps []
  exs : ∀ x ∈ M.ex, ∃ C, mg x = some (.ref C) ∧ ExK K C
theorem find_name : ∀ {ds : List De} {d : De}, (ds.map (·.name)).Nodup → d ∈ ds → ds.find? (fun e => decide (e.name = d.name)) = some d
  | [], _, _, h => absurd h (by simp)
  | e :: ds, d, n, h => by
    simp only [List.map_cons, List.nodup_cons] at n
    rcases List.mem_cons.mp h with rfl | h
    · simp
    · have hne : e.name ≠ d.name := fun z => n.1 (by rw [z]; exact List.mem_map.mpr ⟨d, h, rfl⟩)
      rw [List.find?_cons_of_neg (by simpa using hne)]
      exact find_name n.2 h
theorem lookup_mem {α : Type} {l : List (Str × α)} {x : Str} {a : α} (h : l.lookup x = some a) : (x, a) ∈ l := by
  induction l with
  | nil => cases h
  | cons p l ih =>
    obtain ⟨y, b⟩ := p
    simp only [List.lookup_cons] at h
    split at h
    · next e =>
      have e1 : x = y := by simpa using e
      cases h
      rw [e1]
      exact List.mem_cons_self
    · exact List.mem_cons_of_mem _ (ih h)
section
variable {M : Mo} {P : Program} {w : World} {K : KF} {mg : Mg} {base : Heap}
theorem run_ok (hM : M.ok = true) (E : Wr M K mg) : ∀ (k : Nat) (d : De), d ∈ M.ds → ∀ (f : Addr) (fd : FuncData), Fun K d.name d.name d.st f fd → FnOk P w K mg base (L2.CX P w) k f fd d.ps (spL K mg d.md (runM M k d.name))
  | 0, d, hd, f, fd, F => by
    have no : ∀ vs H Q E, ¬ spL K mg d.md (runM M 0 d.name) vs H Q E := fun vs H Q E ⟨G, ds, os, S, _, _, _, _, h⟩ => h
    exact ⟨fun vs H Q E h => (no _ _ _ _ h).elim, fun A outer s H args us vs Q E _ _ _ _ h => (no _ _ _ _ h).elim⟩
  | k + 1, d, hd, f, fd, F => by
    simp only [Mo.ok, Bool.and_eq_true, decide_eq_true_eq] at hM
    have hM' : M.ok = true := by simp only [Mo.ok, Bool.and_eq_true, decide_eq_true_eq]; exact hM
    have hok := List.all_eq_true.mp hM.2 d hd
    simp only [De.ok, Bool.and_eq_true, decide_eq_true_eq] at hok
    obtain ⟨⟨h1, h2⟩, h3⟩ := hok
    have e : runM M (k + 1) d.name = fnR d.N.length d.md (evSs (gm M (runM M k)) k d.body) := by
      simp only [runM]
      rw [find_name hM.1 hd]
    rw [e]
    have S := fsC_ok h1
    refine fn_by F S h2 fun X W β B tk hmd => ?_
    have T : Tb X k (gm M (runM M k)) := {
      nd := by rw [B.hN]; exact S.nd
      calm := B.calm
      room := B.room
      blt := fun x hx => by rw [B.hm]; exact E.blt x hx
      glob := fun x g hx => by
        rw [B.hm]
        rcases List.mem_append.mp (lookup_mem hx) with h | h
        · obtain ⟨p, hp, e⟩ := List.mem_map.mp h
          cases e
          obtain ⟨t, ht⟩ := E.str p hp
          exact ⟨.str p.2, _, ht, ⟨t, rfl⟩, fun _ => .str _⟩
        · obtain ⟨p, hp, e⟩ := List.mem_map.mp h
          cases e
          obtain ⟨t, ht⟩ := E.int p hp
          exact ⟨.int p.2, _, ht, ⟨t, rfl⟩, fun _ => .int _⟩
      fns := fun x md hx => by
        obtain ⟨d', hd', e⟩ := List.mem_map.mp (lookup_mem hx)
        cases e
        obtain ⟨f', fd', g1, g2, g3⟩ := E.fns d' hd'
        rw [B.hP, B.hw, B.hK, B.hm, B.hb]
        exact ⟨f', fd', d'.ps, g1, g2.kp, g3, run_ok hM' E k d' hd' f' fd' g2⟩ }
    exact sSs ⟨T, tk, B.hN, B.hsc, B.fn, B.own, S.kind, hmd, fun x hx => by rw [B.hm, B.hK]; exact E.exs x hx⟩ d.body (defBody d.st) h3
/-- the facts to be read off the head -/
def Mo.fa (M : Mo) : List He.Fa := M.bl.map .free ++ M.gs.map (fun p => .str p.1 p.2) ++ M.gi.map (fun p => .int p.1 p.2) ++ M.ds.map (fun d => .glo d.name) ++ M.ex.map .glo ++ M.ex.map .exc
def De.df (d : De) : He.DefD := ⟨(d.name, none), d.name, d.name, defArgs d.st, defBody d.st, defScope d.st, [], []⟩
def Mo.fn (M : Mo) : List He.DefD := M.ds.map De.df
theorem wr_of {h : Heap} (X : K.In h) (G : h.Ns mainGlobals mg) (c : He.SaysD M.fa M.fn K) (hb : ∀ d ∈ M.ds, BindOk d) : Wr M K mg where
  blt := fun x hx => He.free_ok X G (c.facts (by simp only [Mo.fa, List.mem_append, List.mem_map]; exact .inl (.inl (.inl (.inl (.inl ⟨x, hx, rfl⟩))))))
  str := fun p hp => He.str_ok X G (c.facts (by simp only [Mo.fa, List.mem_append, List.mem_map]; exact .inl (.inl (.inl (.inl (.inr ⟨p, hp, rfl⟩))))))
  int := fun p hp => He.int_ok X G (c.facts (by simp only [Mo.fa, List.mem_append, List.mem_map]; exact .inl (.inl (.inl (.inr ⟨p, hp, rfl⟩)))))
  fns := fun d hd => by
    have g := He.glo_ok X G (c.facts (f := .glo d.name) (by simp only [Mo.fa, List.mem_append, List.mem_map]; exact .inl (.inl (.inr ⟨d, hd, rfl⟩))))
    obtain ⟨fd, F⟩ := c.defs (d := d.df) (List.mem_map.mpr ⟨d, hd, rfl⟩)
    exact ⟨He.ga K d.name, fd, g, He5.fun_of F, FunD.bindsN F (hb d hd)⟩
  exs := fun x hx => by
    have g := He.glo_ok X G (c.facts (f := .glo x) (by simp only [Mo.fa, List.mem_append, List.mem_map]; exact .inl (.inr ⟨x, hx, rfl⟩)))
    obtain ⟨h1, h2, h3, h4⟩ := He.exc_ok (c.facts (f := .exc x) (by simp only [Mo.fa, List.mem_append, List.mem_map]; exact .inr ⟨x, hx, rfl⟩))
    exact ⟨_, g, h1, h2, h3, h4⟩
/-- what leaves a def, whatever the world -/
def CXL (P : Program) : CXT := fun outer H s E u s' => ∃ w, L2.CX P w outer H s E u s'
theorem cxl_no {P : Program} {outer : List Env} {H : Hp} {s : Shared} {e : Value} {s' : Shared} (h : CXL P outer H s (fun _ _ _ => False) e s') : False := by
  obtain ⟨w, a, B, H', cls, d, _, _, _, _, _, _, _, h⟩ := h
  exact h
theorem fn_cxl {k : Nat} {f : Addr} {fd : FuncData} {ps : List Str} {sp : Sp} (F : FnOk P w K mg base (L2.CX P w) k f fd ps sp) : FnOk P w K mg base (CXL P) k f fd ps sp :=
  ⟨F.len, fun A outer s H args us vs Q E hr he hb hv hs => codeAny_mono (F.run A outer s H args us vs Q E hr he hb hv hs) fun r s' q => by
    cases r with
    | error e => exact ⟨w, q⟩
    | ok fl => cases fl <;> exact q⟩
/-- the law's end: it is the last def, with one parameter -/
theorem law_facts {h : Heap} {fa : Addr} {k : Nat} {d : De} {x : Str} (hM : M.ok = true) (hb : ∀ d ∈ M.ds, BindOk d) (hd : d ∈ M.ds) (hp : d.ps = [x]) (hmd : d.md = [false]) (hlaw : ∀ ns : List Int, ns.length ≤ 63 → (runM M k d.name [.list (ns.map .int)] []).z = .ok (.fz (.bool true)))
    (X : K.In h) (G : h.Ns mainGlobals mg) (hfa : mg d.name = some (.ref fa)) (c : He.SaysD M.fa M.fn K) :
    ∃ (fd : FuncData) (sp : Sp), (∀ (s : Shared) (v : Value), BindsTo s fd ⟨[v], []⟩ [(x, v)]) ∧ (∀ (H : Hp) (a : Addr) (ns : List Int), ns.length ≤ 63 → Only H → SqL K H a (ns.map V.int) → sp [.ref a] H (fun v _ => v = .bl true) fun _ _ _ => False) ∧
      ∀ base : Heap, K.In base → base.Ns mainGlobals mg → FnOk P w K mg base (CXL P) k fa fd [x] sp := by
  have E := wr_of X G c hb
  obtain ⟨fd, F⟩ := c.defs (d := d.df) (List.mem_map.mpr ⟨d, hd, rfl⟩)
  have e := hfa.symm.trans (He.glo_ok X G (c.facts (f := .glo d.name) (by simp only [Mo.fa, List.mem_append, List.mem_map]; exact .inl (.inl (.inr ⟨d, hd, rfl⟩)))))
  cases e
  have hbd := hb d hd
  have b := FunD.bindsA (ps := [x]) F (by rw [← hp]; exact hbd)
  refine ⟨fd, spL K mg d.md (runM M k d.name), fun s v => b s [v] rfl, fun H a ns hl hO hS => ?_, fun base _ _ => ?_⟩
  · rw [hmd]
    have hS' : Rp K H (.ref a) (.list (ns.map .int)) := .lst hS RpA.ints
    refine spL_data Le.rfl' (.cons hS' .nil) rfl rfl (fun o eo => ?_) (fun c ec => ?_) fun es => ?_
    · rw [hlaw ns hl] at eo
      cases eo
      intro v G' H' S' _ r _ _
      exact r.bool
    · rw [hlaw ns hl] at ec; cases ec
    · rw [hlaw ns hl] at es; cases es
  · have := run_ok (P := P) (w := w) (base := base) hM E k d hd _ fd (He5.fun_of F)
    rw [hp] at this
    exact fn_cxl this
end
end Mw
/-! Mu1: the worth of trees, step by step: rules for simp, each at a state. -/
namespace Mw
open PySem PySem.Spec PyProof.Rows L2
section
variable {Γ : Gm} {k : Nat} {ρ : Ro}
theorem ox_c {d : D} : ev Γ k (.c d) ρ = .ok (.fz d) := by simp only [ev]
theorem ox_v {i : Nat} : ev Γ k (.v i) ρ = oVar i ρ := by simp only [ev]
theorem ox_g {x : Str} : ev Γ k (.g x) ρ = ofO false (Γ.s.gl.lookup x) := by simp only [ev]; cases Γ.s.gl.lookup x <;> rfl
theorem ox_bin {o : Bo} {a b : E} : ev Γ k (.bin o a b) ρ = (ev Γ k a ρ).bind fun x => (ev Γ k b ρ).bind fun y => bo o x y := by simp only [ev]
theorem ox_cmp {o : Co} {a b : E} : ev Γ k (.cmp o a b) ρ = (ev Γ k a ρ).bind fun x => (ev Γ k b ρ).bind fun y => co k o x y := by simp only [ev]
theorem ox_isn {n : Bool} {a : E} : ev Γ k (.isn n a) ρ = (ev Γ k a ρ).bind fun o => oB (match n with | true => !isNon o | false => isNon o) := by first | (simp only [ev]; done) | (simp only [ev]; cases n <;> rfl)
theorem ox_neg {a : E} : ev Γ k (.neg a) ρ = (ev Γ k a ρ).bind oNeg := by simp only [ev]
theorem ox_not {a : E} : ev Γ k (.not a) ρ = (ev Γ k a ρ).bind fun c => match c with | .fz (.bool b) => .ok (.fz (.bool (!b))) | _ => .st := by simp only [ev]; rfl
theorem ox_and {a b : E} : ev Γ k (.and a b) ρ = (ev Γ k a ρ).bind fun c => match c with | .fz (.bool true) => ev Γ k b ρ | .fz (.bool false) => .ok (.fz (.bool false)) | _ => .st := by simp only [ev]; rfl
theorem ox_or {a b : E} : ev Γ k (.or a b) ρ = (ev Γ k a ρ).bind fun c => match c with | .fz (.bool true) => .ok (.fz (.bool true)) | .fz (.bool false) => ev Γ k b ρ | _ => .st := by simp only [ev]; rfl
theorem ox_ite {c a b : E} : ev Γ k (.ite c a b) ρ = (evT Γ k c ρ).bind fun t => match t with | true => ev Γ k a ρ | false => ev Γ k b ρ := by simp only [ev]; rfl
theorem ox_tup {es : Es} : ev Γ k (.tup es) ρ = (evN Γ k es ρ).bind fun os => .ok (oTup os) := by simp only [ev]
theorem ox_lst {es : Es} : ev Γ k (.lst es) ρ = (evN Γ k es ρ).bind fun os => .ok (.ol os) := by simp only [ev]
theorem ox_ix {a b : E} : ev Γ k (.ix a b) ρ = (ev Γ k a ρ).bind fun x => (ev Γ k b ρ).bind fun y => oIx x y := by simp only [ev]
theorem ox_sl {a : E} {lo hi : Eo} : ev Γ k (.sl a lo hi) ρ = (ev Γ k a ρ).bind fun x => (evP Γ k lo ρ).bind fun l => (evP Γ k hi ρ).bind fun u => oSl x l u := by simp only [ev]
theorem ox_call0 {f : Str} : ev Γ k (.call f .nil) ρ = noRs (Γ.run k f [] []).z := by simp only [ev]
theorem ox_call {f : Str} {a : E} {r : Es} : ev Γ k (.call f (.cons a r)) ρ = (evD Γ k (.cons a r) ρ).bind fun ds => (Γ.run k f ds []).z := by simp only [ev]
theorem ox_callb {f : Str} {es : Es} : ev Γ k (.callb f es) ρ = (evB Γ k es ρ).bind (oShown (Γ.run k f)) := by simp only [ev]
theorem ox_bi {f : Bi} {es : Es} : ev Γ k (.bi f es) ρ = (evB Γ k es ρ).bind (bi f) := by simp only [ev]
theorem ox_isi {a : E} {T : String} : ev Γ k (.isi a T) ρ = (ev Γ k a ρ).bind fun o => oB (isD o.d T) := by simp only [ev]
theorem ox_m1 {m : M1} {a b : E} : ev Γ k (.m1 m a b) ρ = (ev Γ k a ρ).bind fun x => match x with | .fz (.str z) => (ev Γ k b ρ).bind (m1 m z) | _ => .st := by simp only [ev]; rfl
theorem ox_lc {t : Tg} {it : It} {c : Eo} {e : E} : ev Γ k (.lc t it c e) ρ = (evI Γ k it ρ).bind fun ds => (noRs (lcL t (evC Γ k c) (nw (pth e) (ev Γ k e)) (wipeR t ρ) ds)).bind fun os => if os.length < sizeLine then .ok (.ol os) else .st := by simp only [ev]; rfl
/-! tests -/
theorem oxt_and {a b : E} : evT Γ k (.and a b) ρ = (evT Γ k a ρ).bind fun c => match c with | true => evT Γ k b ρ | false => .ok false := by simp only [evT]; rfl
theorem oxt_or {a b : E} : evT Γ k (.or a b) ρ = (evT Γ k a ρ).bind fun c => match c with | true => .ok true | false => evT Γ k b ρ := by simp only [evT]; rfl
theorem oxt_not {a : E} : evT Γ k (.not a) ρ = (evT Γ k a ρ).bind fun c => .ok (!c) := by simp only [evT]; rfl
theorem oxt_cmp {o : Co} {a b : E} : evT Γ k (.cmp o a b) ρ = (ev Γ k (.cmp o a b) ρ).bind oTru0 := by simp only [evT, ev]
theorem oxt_isn {n : Bool} {a : E} : evT Γ k (.isn n a) ρ = (ev Γ k a ρ).bind fun o => .ok (match n with | true => !isNon o | false => isNon o) := by first | (simp only [evT]; done) | (simp only [evT]; cases n <;> rfl)
theorem oxt_v {i : Nat} : evT Γ k (.v i) ρ = (oVar i ρ).bind oTru := by simp only [evT]
theorem oxt_call {f : Str} {es : Es} : evT Γ k (.call f es) ρ = (ev Γ k (.call f es) ρ).bind oTru := by cases es <;> simp only [evT, ev]
theorem oxt_callb {f : Str} {es : Es} : evT Γ k (.callb f es) ρ = (ev Γ k (.callb f es) ρ).bind oTru := by simp only [evT, ev]
theorem oxt_isi {a : E} {T : String} : evT Γ k (.isi a T) ρ = (ev Γ k (.isi a T) ρ).bind oTru := by simp only [evT, ev]
theorem oxt_bi {f : Bi} {es : Es} : evT Γ k (.bi f es) ρ = (ev Γ k (.bi f es) ρ).bind oTru := by simp only [evT, ev]
theorem oxt_ix {a b : E} : evT Γ k (.ix a b) ρ = (ev Γ k (.ix a b) ρ).bind oTru := by simp only [evT, ev]
theorem oxt_c {d : D} : evT Γ k (.c d) ρ = oTru (.fz d) := by simp only [evT, Rz.bind_ok]
/-! lists of parts -/
theorem oxn_nil : evN Γ k .nil ρ = .ok [] := by simp only [evN]
theorem oxn_cons {a : E} {r : Es} : evN Γ k (.cons a r) ρ = ((ev Γ k a ρ).bind (nwO (pth a))).bind fun o => (evN Γ k r ρ).bind fun os => .ok (o :: os) := by simp only [evN]; rfl
theorem oxd_nil : evD Γ k .nil ρ = .ok [] := by simp only [evD]
theorem oxd_cons {a : E} {r : Es} : evD Γ k (.cons a r) ρ = ((ev Γ k a ρ).bind (toD (pth a))).bind fun o => (evD Γ k r ρ).bind fun os => .ok (o :: os) := by simp only [evD]; rfl
theorem oxb_nil : evB Γ k .nil ρ = .ok [] := by simp only [evB]
theorem oxb_cons {a : E} {r : Es} : evB Γ k (.cons a r) ρ = (ev Γ k a ρ).bind fun o => (evB Γ k r ρ).bind fun os => .ok (o :: os) := by simp only [evB]; rfl
theorem oxp_no : evP Γ k .no ρ = .ok none := by simp only [evP]
theorem oxp_so {a : E} : evP Γ k (.so a) ρ = (ev Γ k a ρ).bind oPart := by simp only [evP]
theorem oxc_no : evC Γ k .no ρ = .ok true := by simp only [evC]
theorem oxc_so {a : E} : evC Γ k (.so a) ρ = evT Γ k a ρ := by simp only [evC]
theorem oxi_any {a : E} : evI Γ k (.any a) ρ = (ev Γ k a ρ).bind oItems := by simp only [evI]
theorem oxi_rng {es : Es} : evI Γ k (.rng es) ρ = (evB Γ k es ρ).bind oRng := by simp only [evI]
theorem oxf_any {a : E} : evF Γ k (.any a) ρ = ((ev Γ k a ρ).bind (toD (pth a))).bind fun d => oItems (.fz d) := by simp only [evF]
theorem oxf_rng {es : Es} : evF Γ k (.rng es) ρ = (evB Γ k es ρ).bind oRng := by simp only [evF]
/-! statements -/
theorem oxs_nil : evSs Γ k .nil ρ = .nx ρ := by simp only [evSs]
/-- on to the rest -/
def Rs.on (r : Rs) (f : Ro → Rs) : Rs := match r with
  | .nx ρ => f ρ
  | r => r
@[simp] theorem Rs.on_nx {f : Ro → Rs} : (Rs.nx ρ).on f = f ρ := Eq.trans rfl rfl
@[simp] theorem Rs.on_bk {f : Ro → Rs} : (Rs.bk ρ).on f = .bk ρ := Eq.trans rfl rfl
@[simp] theorem Rs.on_ct {f : Ro → Rs} : (Rs.ct ρ).on f = .ct ρ := Eq.trans rfl rfl
@[simp] theorem Rs.on_rt {f : Ro → Rs} {o : O} : (Rs.rt o ρ).on f = .rt o ρ := Eq.trans rfl rfl
@[simp] theorem Rs.on_rs {f : Ro → Rs} {c : Str} : (Rs.rs c ρ).on f = .rs c ρ := Eq.trans rfl rfl
@[simp] theorem Rs.on_st {f : Ro → Rs} : Rs.st.on f = .st := Eq.trans rfl rfl
theorem oxs_cons {s : S} {r : Ss} : evSs Γ k (.cons s r) ρ = (evS Γ k s ρ).on (evSs Γ k r) := by
  simp only [evSs]
  unfold sSeq Rs.on
  cases evS Γ k s ρ <;> rfl
theorem oxs_one {s : S} : evSs Γ k (.cons s .nil) ρ = evS Γ k s ρ := by
  rw [oxs_cons]
  cases evS Γ k s ρ <;> simp [oxs_nil]
theorem oxs_ex {e : E} : evS Γ k (.ex e) ρ = (ev Γ k e ρ).then ρ fun _ => .nx ρ := by simp only [evS]; rfl
theorem oxs_set {i : Nat} {e : E} : evS Γ k (.set i e) ρ = ((ev Γ k e ρ).bind (nwO (pth e))).then ρ fun o => if i < ρ.length then .nx (ρ.set i (some o)) else .st := by simp only [evS]; rfl
theorem oxs_setLc {i : Nat} {t : Tg} {it : It} {c : Eo} {e : E} : evS Γ k (.setLc i t it c e) ρ = (ev Γ k (.lc t it c e) ρ).then ρ fun o => if i < ρ.length then .nx (ρ.set i (some o)) else .st := by simp only [evS, ev]; rfl
theorem oxs_ret {e : E} : evS Γ k (.ret e) ρ = ((ev Γ k e ρ).bind (nwO (pth e))).then ρ fun o => .rt o ρ := by simp only [evS]; rfl
theorem oxs_retV {i : Nat} : evS Γ k (.retV i) ρ = sRetV i ρ := by simp only [evS]
theorem oxs_retN : evS Γ k .retN ρ = .rt (.fz .none) ρ := by simp only [evS]
theorem oxs_ite {c : E} {a b : Ss} : evS Γ k (.ite c a b) ρ = (evT Γ k c ρ).then ρ fun t => match t with | true => evSs Γ k a ρ | false => evSs Γ k b ρ := by simp only [evS]; rfl
theorem oxs_fr {t : Tg} {it : It} {b : Ss} : evS Γ k (.fr t it b) ρ = (evF Γ k it ρ).then ρ fun ds => forL t (evSs Γ k b) ds ρ := by simp only [evS]; rfl
theorem oxs_whl {c : E} {b : Ss} : evS Γ k (.whl c b) ρ = whlL (evT Γ k c) (evSs Γ k b) Γ.fuel ρ := by simp only [evS]
theorem oxs_brk : evS Γ k .brk ρ = .bk ρ := by simp only [evS]
theorem oxs_cnt : evS Γ k .cnt ρ = .ct ρ := by simp only [evS]
theorem oxs_pass : evS Γ k .pass ρ = .nx ρ := by simp only [evS]
theorem oxs_mut {m : Mu} {p : E} {es : Es} : evS Γ k (.mut m p es) ρ = (evPa Γ k p ρ).then ρ fun p => match ρ[p.1]? with
  | some (some o) => match subO o p.2 with
    | some (.ol os) => (evN Γ k es ρ).then ρ fun ys => match mu m os ys with
      | some os' => .nx (ρ.set p.1 (some (putO o p.2 (.ol os'))))
      | none => .st
    | _ => .st
  | _ => .st := by simp only [evS]; rfl
theorem oxs_put {p i e : E} : evS Γ k (.put p i e) ρ = ((ev Γ k e ρ).bind (nwO (pth e))).then ρ fun y => (evPa Γ k p ρ).then ρ fun p => (ev Γ k i ρ).then ρ fun k => match ρ[p.1]? with
  | some (some o) => match subO o p.2, k with
    | some (.ol os), .fz (.int n) => match ixN os.length n with
      | some j => .nx (ρ.set p.1 (some (putO o p.2 (.ol (os.set j y)))))
      | none => .st
    | _, _ => .st
  | _ => .st := by simp only [evS]; rfl
theorem oxs_giv {i : Nat} {s : S} : evS Γ k (.giv i s) ρ = evS Γ k s (givR i ρ) := by simp only [evS]
theorem oxs_raise {x : Str} : evS Γ k (.raise x) ρ = .rs x ρ := by simp only [evS]
theorem oxa_v {i : Nat} : evPa Γ k (.v i) ρ = paV i ρ := rfl
theorem oxa_ix {p e : E} : evPa Γ k (.ix p e) ρ = (evPa Γ k p ρ).bind fun q => (ev Γ k e ρ).bind fun y => match ρ[q.1]? with
  | some (some o) => (oStep o q.2 y).bind fun js => .ok (q.1, js)
  | _ => .st := rfl
theorem xr_one {i : Nat} {B : Ro → Rs} {d : D} {ds : List D} (h : i < ρ.length) : forL (.one i) B (d :: ds) ρ = match B (ρ.set i (some (.fz d))) with
    | .nx ρ' => forL (.one i) B ds ρ'
    | .ct ρ' => forL (.one i) B ds ρ'
    | .bk ρ' => .nx ρ'
    | .rt o ρ' => .rt o ρ'
    | .rs c ρ' => .rs c ρ'
    | .st => .st := by
  first | (simp only [forL, setT, if_pos h]; done) | (simp only [forL, setT, if_pos h]; rfl)
@[simp] theorem xr_nil {t : Tg} {B : Ro → Rs} : forL t B [] ρ = .nx ρ := Eq.trans rfl rfl
end
/-- the worth of trees, as one thing; We .. Wss are it, but that they do not unfold -/
structure Evs where
  e : Gm → Nat → E → Ro → Rz O
  t : Gm → Nat → E → Ro → Rz Bool
  n : Gm → Nat → Es → Ro → Rz (List O)
  d : Gm → Nat → Es → Ro → Rz (List D)
  b : Gm → Nat → Es → Ro → Rz (List O)
  p : Gm → Nat → Eo → Ro → Rz (Option Int)
  c : Gm → Nat → Eo → Ro → Rz Bool
  i : Gm → Nat → It → Ro → Rz (List D)
  f : Gm → Nat → It → Ro → Rz (List D)
  a : Gm → Nat → E → Ro → Rz (Nat × List Nat)
  s : Gm → Nat → S → Ro → Rs
  ss : Gm → Nat → Ss → Ro → Rs
def evs0 : Evs := ⟨ev, evT, evN, evD, evB, evP, evC, evI, evF, evPa, evS, evSs⟩
theorem evs_ex : ∃ p : Evs, p = evs0 := ⟨_, rfl⟩
noncomputable def evs : Evs := Classical.choose evs_ex
theorem evs_eq : evs = evs0 := Classical.choose_spec evs_ex
noncomputable def We : Gm → Nat → E → Ro → Rz O := evs.e
noncomputable def Wt : Gm → Nat → E → Ro → Rz Bool := evs.t
noncomputable def Wn : Gm → Nat → Es → Ro → Rz (List O) := evs.n
noncomputable def Wd : Gm → Nat → Es → Ro → Rz (List D) := evs.d
noncomputable def Wb : Gm → Nat → Es → Ro → Rz (List O) := evs.b
noncomputable def Wp : Gm → Nat → Eo → Ro → Rz (Option Int) := evs.p
noncomputable def Wc : Gm → Nat → Eo → Ro → Rz Bool := evs.c
noncomputable def Wi : Gm → Nat → It → Ro → Rz (List D) := evs.i
noncomputable def Wf : Gm → Nat → It → Ro → Rz (List D) := evs.f
noncomputable def Wa : Gm → Nat → E → Ro → Rz (Nat × List Nat) := evs.a
noncomputable def Ws : Gm → Nat → S → Ro → Rs := evs.s
noncomputable def Wss : Gm → Nat → Ss → Ro → Rs := evs.ss
theorem We_eq : We = ev := by unfold We; rw [evs_eq] <;> rfl
theorem Wt_eq : Wt = evT := by unfold Wt; rw [evs_eq] <;> rfl
theorem Wn_eq : Wn = evN := by unfold Wn; rw [evs_eq] <;> rfl
theorem Wd_eq : Wd = evD := by unfold Wd; rw [evs_eq] <;> rfl
theorem Wb_eq : Wb = evB := by unfold Wb; rw [evs_eq] <;> rfl
theorem Wp_eq : Wp = evP := by unfold Wp; rw [evs_eq] <;> rfl
theorem Wc_eq : Wc = evC := by unfold Wc; rw [evs_eq] <;> rfl
theorem Wi_eq : Wi = evI := by unfold Wi; rw [evs_eq] <;> rfl
theorem Wf_eq : Wf = evF := by unfold Wf; rw [evs_eq] <;> rfl
theorem Wa_eq : Wa = evPa := by unfold Wa; rw [evs_eq] <;> rfl
theorem Ws_eq : Ws = evS := by unfold Ws; rw [evs_eq] <;> rfl
theorem Wss_eq : Wss = evSs := by unfold Wss; rw [evs_eq] <;> rfl
section
variable {Γ : Gm} {k : Nat} {ρ : Ro}
@[simp] theorem x_c {d : D} : We Γ k (.c d) ρ = .ok (.fz d) := by
  simp only [We_eq, Wt_eq, Wn_eq, Wd_eq, Wb_eq, Wp_eq, Wc_eq, Wi_eq, Wf_eq, Wa_eq, Ws_eq, Wss_eq]
  exact ox_c

@[simp] theorem x_v {i : Nat} : We Γ k (.v i) ρ = oVar i ρ := by
  simp only [We_eq, Wt_eq, Wn_eq, Wd_eq, Wb_eq, Wp_eq, Wc_eq, Wi_eq, Wf_eq, Wa_eq, Ws_eq, Wss_eq]
  exact ox_v

@[simp] theorem x_g {x : Str} : We Γ k (.g x) ρ = ofO false (Γ.s.gl.lookup x) := by
  simp only [We_eq, Wt_eq, Wn_eq, Wd_eq, Wb_eq, Wp_eq, Wc_eq, Wi_eq, Wf_eq, Wa_eq, Ws_eq, Wss_eq]
  exact ox_g

@[simp] theorem x_bin {o : Bo} {a b : E} : We Γ k (.bin o a b) ρ = (We Γ k a ρ).bind fun x => (We Γ k b ρ).bind fun y => bo o x y := by
  simp only [We_eq, Wt_eq, Wn_eq, Wd_eq, Wb_eq, Wp_eq, Wc_eq, Wi_eq, Wf_eq, Wa_eq, Ws_eq, Wss_eq]
  exact ox_bin

@[simp] theorem x_cmp {o : Co} {a b : E} : We Γ k (.cmp o a b) ρ = (We Γ k a ρ).bind fun x => (We Γ k b ρ).bind fun y => co k o x y := by
  simp only [We_eq, Wt_eq, Wn_eq, Wd_eq, Wb_eq, Wp_eq, Wc_eq, Wi_eq, Wf_eq, Wa_eq, Ws_eq, Wss_eq]
  exact ox_cmp

@[simp] theorem x_isn {n : Bool} {a : E} : We Γ k (.isn n a) ρ = (We Γ k a ρ).bind fun o => oB (match n with | true => !isNon o | false => isNon o) := by
  simp only [We_eq, Wt_eq, Wn_eq, Wd_eq, Wb_eq, Wp_eq, Wc_eq, Wi_eq, Wf_eq, Wa_eq, Ws_eq, Wss_eq]
  exact ox_isn

@[simp] theorem x_neg {a : E} : We Γ k (.neg a) ρ = (We Γ k a ρ).bind oNeg := by
  simp only [We_eq, Wt_eq, Wn_eq, Wd_eq, Wb_eq, Wp_eq, Wc_eq, Wi_eq, Wf_eq, Wa_eq, Ws_eq, Wss_eq]
  exact ox_neg

@[simp] theorem x_not {a : E} : We Γ k (.not a) ρ = (We Γ k a ρ).bind fun c => match c with | .fz (.bool b) => .ok (.fz (.bool (!b))) | _ => .st := by
  simp only [We_eq, Wt_eq, Wn_eq, Wd_eq, Wb_eq, Wp_eq, Wc_eq, Wi_eq, Wf_eq, Wa_eq, Ws_eq, Wss_eq]
  exact ox_not

@[simp] theorem x_and {a b : E} : We Γ k (.and a b) ρ = (We Γ k a ρ).bind fun c => match c with | .fz (.bool true) => We Γ k b ρ | .fz (.bool false) => .ok (.fz (.bool false)) | _ => .st := by
  simp only [We_eq, Wt_eq, Wn_eq, Wd_eq, Wb_eq, Wp_eq, Wc_eq, Wi_eq, Wf_eq, Wa_eq, Ws_eq, Wss_eq]
  exact ox_and

@[simp] theorem x_or {a b : E} : We Γ k (.or a b) ρ = (We Γ k a ρ).bind fun c => match c with | .fz (.bool true) => .ok (.fz (.bool true)) | .fz (.bool false) => We Γ k b ρ | _ => .st := by
  simp only [We_eq, Wt_eq, Wn_eq, Wd_eq, Wb_eq, Wp_eq, Wc_eq, Wi_eq, Wf_eq, Wa_eq, Ws_eq, Wss_eq]
  exact ox_or

@[simp] theorem x_ite {c a b : E} : We Γ k (.ite c a b) ρ = (Wt Γ k c ρ).bind fun t => match t with | true => We Γ k a ρ | false => We Γ k b ρ := by
  simp only [We_eq, Wt_eq, Wn_eq, Wd_eq, Wb_eq, Wp_eq, Wc_eq, Wi_eq, Wf_eq, Wa_eq, Ws_eq, Wss_eq]
  exact ox_ite

@[simp] theorem x_tup {es : Es} : We Γ k (.tup es) ρ = (Wn Γ k es ρ).bind fun os => .ok (oTup os) := by
  simp only [We_eq, Wt_eq, Wn_eq, Wd_eq, Wb_eq, Wp_eq, Wc_eq, Wi_eq, Wf_eq, Wa_eq, Ws_eq, Wss_eq]
  exact ox_tup

@[simp] theorem x_lst {es : Es} : We Γ k (.lst es) ρ = (Wn Γ k es ρ).bind fun os => .ok (.ol os) := by
  simp only [We_eq, Wt_eq, Wn_eq, Wd_eq, Wb_eq, Wp_eq, Wc_eq, Wi_eq, Wf_eq, Wa_eq, Ws_eq, Wss_eq]
  exact ox_lst

@[simp] theorem x_ix {a b : E} : We Γ k (.ix a b) ρ = (We Γ k a ρ).bind fun x => (We Γ k b ρ).bind fun y => oIx x y := by
  simp only [We_eq, Wt_eq, Wn_eq, Wd_eq, Wb_eq, Wp_eq, Wc_eq, Wi_eq, Wf_eq, Wa_eq, Ws_eq, Wss_eq]
  exact ox_ix

@[simp] theorem x_sl {a : E} {lo hi : Eo} : We Γ k (.sl a lo hi) ρ = (We Γ k a ρ).bind fun x => (Wp Γ k lo ρ).bind fun l => (Wp Γ k hi ρ).bind fun u => oSl x l u := by
  simp only [We_eq, Wt_eq, Wn_eq, Wd_eq, Wb_eq, Wp_eq, Wc_eq, Wi_eq, Wf_eq, Wa_eq, Ws_eq, Wss_eq]
  exact ox_sl

@[simp] theorem x_call0 {f : Str} : We Γ k (.call f .nil) ρ = noRs (Γ.run k f [] []).z := by
  simp only [We_eq, Wt_eq, Wn_eq, Wd_eq, Wb_eq, Wp_eq, Wc_eq, Wi_eq, Wf_eq, Wa_eq, Ws_eq, Wss_eq]
  exact ox_call0

@[simp] theorem x_call {f : Str} {a : E} {r : Es} : We Γ k (.call f (.cons a r)) ρ = (Wd Γ k (.cons a r) ρ).bind fun ds => (Γ.run k f ds []).z := by
  simp only [We_eq, Wt_eq, Wn_eq, Wd_eq, Wb_eq, Wp_eq, Wc_eq, Wi_eq, Wf_eq, Wa_eq, Ws_eq, Wss_eq]
  exact ox_call

@[simp] theorem x_callb {f : Str} {es : Es} : We Γ k (.callb f es) ρ = (Wb Γ k es ρ).bind (oShown (Γ.run k f)) := by
  simp only [We_eq, Wt_eq, Wn_eq, Wd_eq, Wb_eq, Wp_eq, Wc_eq, Wi_eq, Wf_eq, Wa_eq, Ws_eq, Wss_eq]
  exact ox_callb

@[simp] theorem x_bi {f : Bi} {es : Es} : We Γ k (.bi f es) ρ = (Wb Γ k es ρ).bind (bi f) := by
  simp only [We_eq, Wt_eq, Wn_eq, Wd_eq, Wb_eq, Wp_eq, Wc_eq, Wi_eq, Wf_eq, Wa_eq, Ws_eq, Wss_eq]
  exact ox_bi

@[simp] theorem x_isi {a : E} {T : String} : We Γ k (.isi a T) ρ = (We Γ k a ρ).bind fun o => oB (isD o.d T) := by
  simp only [We_eq, Wt_eq, Wn_eq, Wd_eq, Wb_eq, Wp_eq, Wc_eq, Wi_eq, Wf_eq, Wa_eq, Ws_eq, Wss_eq]
  exact ox_isi

@[simp] theorem x_m1 {m : M1} {a b : E} : We Γ k (.m1 m a b) ρ = (We Γ k a ρ).bind fun x => match x with | .fz (.str z) => (We Γ k b ρ).bind (m1 m z) | _ => .st := by
  simp only [We_eq, Wt_eq, Wn_eq, Wd_eq, Wb_eq, Wp_eq, Wc_eq, Wi_eq, Wf_eq, Wa_eq, Ws_eq, Wss_eq]
  exact ox_m1

@[simp] theorem x_lc {t : Tg} {it : It} {c : Eo} {e : E} : We Γ k (.lc t it c e) ρ = (Wi Γ k it ρ).bind fun ds => (noRs (lcL t (Wc Γ k c) (nw (pth e) (We Γ k e)) (wipeR t ρ) ds)).bind fun os => if os.length < sizeLine then .ok (.ol os) else .st := by
  simp only [We_eq, Wt_eq, Wn_eq, Wd_eq, Wb_eq, Wp_eq, Wc_eq, Wi_eq, Wf_eq, Wa_eq, Ws_eq, Wss_eq]
  exact ox_lc

@[simp] theorem xt_and {a b : E} : Wt Γ k (.and a b) ρ = (Wt Γ k a ρ).bind fun c => match c with | true => Wt Γ k b ρ | false => .ok false := by
  simp only [We_eq, Wt_eq, Wn_eq, Wd_eq, Wb_eq, Wp_eq, Wc_eq, Wi_eq, Wf_eq, Wa_eq, Ws_eq, Wss_eq]
  exact oxt_and

@[simp] theorem xt_or {a b : E} : Wt Γ k (.or a b) ρ = (Wt Γ k a ρ).bind fun c => match c with | true => .ok true | false => Wt Γ k b ρ := by
  simp only [We_eq, Wt_eq, Wn_eq, Wd_eq, Wb_eq, Wp_eq, Wc_eq, Wi_eq, Wf_eq, Wa_eq, Ws_eq, Wss_eq]
  exact oxt_or

@[simp] theorem xt_not {a : E} : Wt Γ k (.not a) ρ = (Wt Γ k a ρ).bind fun c => .ok (!c) := by
  simp only [We_eq, Wt_eq, Wn_eq, Wd_eq, Wb_eq, Wp_eq, Wc_eq, Wi_eq, Wf_eq, Wa_eq, Ws_eq, Wss_eq]
  exact oxt_not

@[simp] theorem xt_cmp {o : Co} {a b : E} : Wt Γ k (.cmp o a b) ρ = (We Γ k (.cmp o a b) ρ).bind oTru0 := by
  simp only [We_eq, Wt_eq, Wn_eq, Wd_eq, Wb_eq, Wp_eq, Wc_eq, Wi_eq, Wf_eq, Wa_eq, Ws_eq, Wss_eq]
  exact oxt_cmp

@[simp] theorem xt_isn {n : Bool} {a : E} : Wt Γ k (.isn n a) ρ = (We Γ k a ρ).bind fun o => .ok (match n with | true => !isNon o | false => isNon o) := by
  simp only [We_eq, Wt_eq, Wn_eq, Wd_eq, Wb_eq, Wp_eq, Wc_eq, Wi_eq, Wf_eq, Wa_eq, Ws_eq, Wss_eq]
  exact oxt_isn

@[simp] theorem xt_v {i : Nat} : Wt Γ k (.v i) ρ = (oVar i ρ).bind oTru := by
  simp only [We_eq, Wt_eq, Wn_eq, Wd_eq, Wb_eq, Wp_eq, Wc_eq, Wi_eq, Wf_eq, Wa_eq, Ws_eq, Wss_eq]
  exact oxt_v

@[simp] theorem xt_call {f : Str} {es : Es} : Wt Γ k (.call f es) ρ = (We Γ k (.call f es) ρ).bind oTru := by
  simp only [We_eq, Wt_eq, Wn_eq, Wd_eq, Wb_eq, Wp_eq, Wc_eq, Wi_eq, Wf_eq, Wa_eq, Ws_eq, Wss_eq]
  exact oxt_call

@[simp] theorem xt_callb {f : Str} {es : Es} : Wt Γ k (.callb f es) ρ = (We Γ k (.callb f es) ρ).bind oTru := by
  simp only [We_eq, Wt_eq, Wn_eq, Wd_eq, Wb_eq, Wp_eq, Wc_eq, Wi_eq, Wf_eq, Wa_eq, Ws_eq, Wss_eq]
  exact oxt_callb

@[simp] theorem xt_isi {a : E} {T : String} : Wt Γ k (.isi a T) ρ = (We Γ k (.isi a T) ρ).bind oTru := by
  simp only [We_eq, Wt_eq, Wn_eq, Wd_eq, Wb_eq, Wp_eq, Wc_eq, Wi_eq, Wf_eq, Wa_eq, Ws_eq, Wss_eq]
  exact oxt_isi

@[simp] theorem xt_bi {f : Bi} {es : Es} : Wt Γ k (.bi f es) ρ = (We Γ k (.bi f es) ρ).bind oTru := by
  simp only [We_eq, Wt_eq, Wn_eq, Wd_eq, Wb_eq, Wp_eq, Wc_eq, Wi_eq, Wf_eq, Wa_eq, Ws_eq, Wss_eq]
  exact oxt_bi

@[simp] theorem xt_ix {a b : E} : Wt Γ k (.ix a b) ρ = (We Γ k (.ix a b) ρ).bind oTru := by
  simp only [We_eq, Wt_eq, Wn_eq, Wd_eq, Wb_eq, Wp_eq, Wc_eq, Wi_eq, Wf_eq, Wa_eq, Ws_eq, Wss_eq]
  exact oxt_ix

@[simp] theorem xt_c {d : D} : Wt Γ k (.c d) ρ = oTru (.fz d) := by
  simp only [We_eq, Wt_eq, Wn_eq, Wd_eq, Wb_eq, Wp_eq, Wc_eq, Wi_eq, Wf_eq, Wa_eq, Ws_eq, Wss_eq]
  exact oxt_c

@[simp] theorem xn_nil : Wn Γ k .nil ρ = .ok [] := by
  simp only [We_eq, Wt_eq, Wn_eq, Wd_eq, Wb_eq, Wp_eq, Wc_eq, Wi_eq, Wf_eq, Wa_eq, Ws_eq, Wss_eq]
  exact oxn_nil

@[simp] theorem xn_cons {a : E} {r : Es} : Wn Γ k (.cons a r) ρ = ((We Γ k a ρ).bind (nwO (pth a))).bind fun o => (Wn Γ k r ρ).bind fun os => .ok (o :: os) := by
  simp only [We_eq, Wt_eq, Wn_eq, Wd_eq, Wb_eq, Wp_eq, Wc_eq, Wi_eq, Wf_eq, Wa_eq, Ws_eq, Wss_eq]
  exact oxn_cons

@[simp] theorem xd_nil : Wd Γ k .nil ρ = .ok [] := by
  simp only [We_eq, Wt_eq, Wn_eq, Wd_eq, Wb_eq, Wp_eq, Wc_eq, Wi_eq, Wf_eq, Wa_eq, Ws_eq, Wss_eq]
  exact oxd_nil

@[simp] theorem xd_cons {a : E} {r : Es} : Wd Γ k (.cons a r) ρ = ((We Γ k a ρ).bind (toD (pth a))).bind fun o => (Wd Γ k r ρ).bind fun os => .ok (o :: os) := by
  simp only [We_eq, Wt_eq, Wn_eq, Wd_eq, Wb_eq, Wp_eq, Wc_eq, Wi_eq, Wf_eq, Wa_eq, Ws_eq, Wss_eq]
  exact oxd_cons

@[simp] theorem xb_nil : Wb Γ k .nil ρ = .ok [] := by
  simp only [We_eq, Wt_eq, Wn_eq, Wd_eq, Wb_eq, Wp_eq, Wc_eq, Wi_eq, Wf_eq, Wa_eq, Ws_eq, Wss_eq]
  exact oxb_nil

@[simp] theorem xb_cons {a : E} {r : Es} : Wb Γ k (.cons a r) ρ = (We Γ k a ρ).bind fun o => (Wb Γ k r ρ).bind fun os => .ok (o :: os) := by
  simp only [We_eq, Wt_eq, Wn_eq, Wd_eq, Wb_eq, Wp_eq, Wc_eq, Wi_eq, Wf_eq, Wa_eq, Ws_eq, Wss_eq]
  exact oxb_cons

@[simp] theorem xp_no : Wp Γ k .no ρ = .ok none := by
  simp only [We_eq, Wt_eq, Wn_eq, Wd_eq, Wb_eq, Wp_eq, Wc_eq, Wi_eq, Wf_eq, Wa_eq, Ws_eq, Wss_eq]
  exact oxp_no

@[simp] theorem xp_so {a : E} : Wp Γ k (.so a) ρ = (We Γ k a ρ).bind oPart := by
  simp only [We_eq, Wt_eq, Wn_eq, Wd_eq, Wb_eq, Wp_eq, Wc_eq, Wi_eq, Wf_eq, Wa_eq, Ws_eq, Wss_eq]
  exact oxp_so

@[simp] theorem xc_no : Wc Γ k .no ρ = .ok true := by
  simp only [We_eq, Wt_eq, Wn_eq, Wd_eq, Wb_eq, Wp_eq, Wc_eq, Wi_eq, Wf_eq, Wa_eq, Ws_eq, Wss_eq]
  exact oxc_no

@[simp] theorem xc_so {a : E} : Wc Γ k (.so a) ρ = Wt Γ k a ρ := by
  simp only [We_eq, Wt_eq, Wn_eq, Wd_eq, Wb_eq, Wp_eq, Wc_eq, Wi_eq, Wf_eq, Wa_eq, Ws_eq, Wss_eq]
  exact oxc_so

@[simp] theorem xi_any {a : E} : Wi Γ k (.any a) ρ = (We Γ k a ρ).bind oItems := by
  simp only [We_eq, Wt_eq, Wn_eq, Wd_eq, Wb_eq, Wp_eq, Wc_eq, Wi_eq, Wf_eq, Wa_eq, Ws_eq, Wss_eq]
  exact oxi_any

@[simp] theorem xi_rng {es : Es} : Wi Γ k (.rng es) ρ = (Wb Γ k es ρ).bind oRng := by
  simp only [We_eq, Wt_eq, Wn_eq, Wd_eq, Wb_eq, Wp_eq, Wc_eq, Wi_eq, Wf_eq, Wa_eq, Ws_eq, Wss_eq]
  exact oxi_rng

@[simp] theorem xf_any {a : E} : Wf Γ k (.any a) ρ = ((We Γ k a ρ).bind (toD (pth a))).bind fun d => oItems (.fz d) := by
  simp only [We_eq, Wt_eq, Wn_eq, Wd_eq, Wb_eq, Wp_eq, Wc_eq, Wi_eq, Wf_eq, Wa_eq, Ws_eq, Wss_eq]
  exact oxf_any

@[simp] theorem xf_rng {es : Es} : Wf Γ k (.rng es) ρ = (Wb Γ k es ρ).bind oRng := by
  simp only [We_eq, Wt_eq, Wn_eq, Wd_eq, Wb_eq, Wp_eq, Wc_eq, Wi_eq, Wf_eq, Wa_eq, Ws_eq, Wss_eq]
  exact oxf_rng

@[simp] theorem xs_nil : Wss Γ k .nil ρ = .nx ρ := by
  simp only [We_eq, Wt_eq, Wn_eq, Wd_eq, Wb_eq, Wp_eq, Wc_eq, Wi_eq, Wf_eq, Wa_eq, Ws_eq, Wss_eq]
  exact oxs_nil

@[simp] theorem xs_cons {s : S} {r : Ss} : Wss Γ k (.cons s r) ρ = (Ws Γ k s ρ).on (Wss Γ k r) := by
  simp only [We_eq, Wt_eq, Wn_eq, Wd_eq, Wb_eq, Wp_eq, Wc_eq, Wi_eq, Wf_eq, Wa_eq, Ws_eq, Wss_eq]
  exact oxs_cons

theorem xs_one {s : S} : Wss Γ k (.cons s .nil) ρ = Ws Γ k s ρ := by
  simp only [We_eq, Wt_eq, Wn_eq, Wd_eq, Wb_eq, Wp_eq, Wc_eq, Wi_eq, Wf_eq, Wa_eq, Ws_eq, Wss_eq]
  exact oxs_one

@[simp] theorem xs_ex {e : E} : Ws Γ k (.ex e) ρ = (We Γ k e ρ).then ρ fun _ => .nx ρ := by
  simp only [We_eq, Wt_eq, Wn_eq, Wd_eq, Wb_eq, Wp_eq, Wc_eq, Wi_eq, Wf_eq, Wa_eq, Ws_eq, Wss_eq]
  exact oxs_ex

@[simp] theorem xs_set {i : Nat} {e : E} : Ws Γ k (.set i e) ρ = ((We Γ k e ρ).bind (nwO (pth e))).then ρ fun o => if i < ρ.length then .nx (ρ.set i (some o)) else .st := by
  simp only [We_eq, Wt_eq, Wn_eq, Wd_eq, Wb_eq, Wp_eq, Wc_eq, Wi_eq, Wf_eq, Wa_eq, Ws_eq, Wss_eq]
  exact oxs_set

@[simp] theorem xs_setLc {i : Nat} {t : Tg} {it : It} {c : Eo} {e : E} : Ws Γ k (.setLc i t it c e) ρ = (We Γ k (.lc t it c e) ρ).then ρ fun o => if i < ρ.length then .nx (ρ.set i (some o)) else .st := by
  simp only [We_eq, Wt_eq, Wn_eq, Wd_eq, Wb_eq, Wp_eq, Wc_eq, Wi_eq, Wf_eq, Wa_eq, Ws_eq, Wss_eq]
  exact oxs_setLc

@[simp] theorem xs_ret {e : E} : Ws Γ k (.ret e) ρ = ((We Γ k e ρ).bind (nwO (pth e))).then ρ fun o => .rt o ρ := by
  simp only [We_eq, Wt_eq, Wn_eq, Wd_eq, Wb_eq, Wp_eq, Wc_eq, Wi_eq, Wf_eq, Wa_eq, Ws_eq, Wss_eq]
  exact oxs_ret

@[simp] theorem xs_retV {i : Nat} : Ws Γ k (.retV i) ρ = sRetV i ρ := by
  simp only [We_eq, Wt_eq, Wn_eq, Wd_eq, Wb_eq, Wp_eq, Wc_eq, Wi_eq, Wf_eq, Wa_eq, Ws_eq, Wss_eq]
  exact oxs_retV

@[simp] theorem xs_retN : Ws Γ k .retN ρ = .rt (.fz .none) ρ := by
  simp only [We_eq, Wt_eq, Wn_eq, Wd_eq, Wb_eq, Wp_eq, Wc_eq, Wi_eq, Wf_eq, Wa_eq, Ws_eq, Wss_eq]
  exact oxs_retN

@[simp] theorem xs_ite {c : E} {a b : Ss} : Ws Γ k (.ite c a b) ρ = (Wt Γ k c ρ).then ρ fun t => match t with | true => Wss Γ k a ρ | false => Wss Γ k b ρ := by
  simp only [We_eq, Wt_eq, Wn_eq, Wd_eq, Wb_eq, Wp_eq, Wc_eq, Wi_eq, Wf_eq, Wa_eq, Ws_eq, Wss_eq]
  exact oxs_ite

@[simp] theorem xs_fr {t : Tg} {it : It} {b : Ss} : Ws Γ k (.fr t it b) ρ = (Wf Γ k it ρ).then ρ fun ds => forL t (Wss Γ k b) ds ρ := by
  simp only [We_eq, Wt_eq, Wn_eq, Wd_eq, Wb_eq, Wp_eq, Wc_eq, Wi_eq, Wf_eq, Wa_eq, Ws_eq, Wss_eq]
  exact oxs_fr

@[simp] theorem xs_whl {c : E} {b : Ss} : Ws Γ k (.whl c b) ρ = whlL (Wt Γ k c) (Wss Γ k b) Γ.fuel ρ := by
  simp only [We_eq, Wt_eq, Wn_eq, Wd_eq, Wb_eq, Wp_eq, Wc_eq, Wi_eq, Wf_eq, Wa_eq, Ws_eq, Wss_eq]
  exact oxs_whl

@[simp] theorem xs_brk : Ws Γ k .brk ρ = .bk ρ := by
  simp only [We_eq, Wt_eq, Wn_eq, Wd_eq, Wb_eq, Wp_eq, Wc_eq, Wi_eq, Wf_eq, Wa_eq, Ws_eq, Wss_eq]
  exact oxs_brk

@[simp] theorem xs_cnt : Ws Γ k .cnt ρ = .ct ρ := by
  simp only [We_eq, Wt_eq, Wn_eq, Wd_eq, Wb_eq, Wp_eq, Wc_eq, Wi_eq, Wf_eq, Wa_eq, Ws_eq, Wss_eq]
  exact oxs_cnt

@[simp] theorem xs_pass : Ws Γ k .pass ρ = .nx ρ := by
  simp only [We_eq, Wt_eq, Wn_eq, Wd_eq, Wb_eq, Wp_eq, Wc_eq, Wi_eq, Wf_eq, Wa_eq, Ws_eq, Wss_eq]
  exact oxs_pass

@[simp] theorem xs_mut {m : Mu} {p : E} {es : Es} : Ws Γ k (.mut m p es) ρ = (Wa Γ k p ρ).then ρ fun p => match ρ[p.1]? with
  | some (some o) => match subO o p.2 with
    | some (.ol os) => (Wn Γ k es ρ).then ρ fun ys => match mu m os ys with
      | some os' => .nx (ρ.set p.1 (some (putO o p.2 (.ol os'))))
      | none => .st
    | _ => .st
  | _ => .st := by
  simp only [We_eq, Wt_eq, Wn_eq, Wd_eq, Wb_eq, Wp_eq, Wc_eq, Wi_eq, Wf_eq, Wa_eq, Ws_eq, Wss_eq]
  exact oxs_mut

@[simp] theorem xs_put {p i e : E} : Ws Γ k (.put p i e) ρ = ((We Γ k e ρ).bind (nwO (pth e))).then ρ fun y => (Wa Γ k p ρ).then ρ fun p => (We Γ k i ρ).then ρ fun k => match ρ[p.1]? with
  | some (some o) => match subO o p.2, k with
    | some (.ol os), .fz (.int n) => match ixN os.length n with
      | some j => .nx (ρ.set p.1 (some (putO o p.2 (.ol (os.set j y)))))
      | none => .st
    | _, _ => .st
  | _ => .st := by
  simp only [We_eq, Wt_eq, Wn_eq, Wd_eq, Wb_eq, Wp_eq, Wc_eq, Wi_eq, Wf_eq, Wa_eq, Ws_eq, Wss_eq]
  exact oxs_put

@[simp] theorem xs_giv {i : Nat} {s : S} : Ws Γ k (.giv i s) ρ = Ws Γ k s (givR i ρ) := by
  simp only [We_eq, Wt_eq, Wn_eq, Wd_eq, Wb_eq, Wp_eq, Wc_eq, Wi_eq, Wf_eq, Wa_eq, Ws_eq, Wss_eq]
  exact oxs_giv

@[simp] theorem xs_raise {x : Str} : Ws Γ k (.raise x) ρ = .rs x ρ := by
  simp only [We_eq, Wt_eq, Wn_eq, Wd_eq, Wb_eq, Wp_eq, Wc_eq, Wi_eq, Wf_eq, Wa_eq, Ws_eq, Wss_eq]
  exact oxs_raise

@[simp] theorem xa_v {i : Nat} : Wa Γ k (.v i) ρ = paV i ρ := by
  simp only [We_eq, Wt_eq, Wn_eq, Wd_eq, Wb_eq, Wp_eq, Wc_eq, Wi_eq, Wf_eq, Wa_eq, Ws_eq, Wss_eq]
  exact oxa_v

@[simp] theorem xa_ix {p e : E} : Wa Γ k (.ix p e) ρ = (Wa Γ k p ρ).bind fun q => (We Γ k e ρ).bind fun y => match ρ[q.1]? with
  | some (some o) => (oStep o q.2 y).bind fun js => .ok (q.1, js)
  | _ => .st := by
  simp only [We_eq, Wt_eq, Wn_eq, Wd_eq, Wb_eq, Wp_eq, Wc_eq, Wi_eq, Wf_eq, Wa_eq, Ws_eq, Wss_eq]
  exact oxa_ix
end
@[simp] theorem noRs_ok' {α : Type} (a : α) : noRs (Rz.ok a) = .ok a := Eq.trans rfl rfl
@[simp] theorem Rl.z_ok {o : O} {os : List O} : (Rl.ok o os).z = .ok o := Eq.trans rfl rfl
@[simp] theorem Rl.z_rs {c : Str} {os : List O} : (Rl.rs c os).z = .rs c := Eq.trans rfl rfl
@[simp] theorem Rl.z_st : Rl.st.z = .st := Eq.trans rfl rfl
@[simp] theorem nwO_f (o : O) : nwO false o = .ok o := by cases o <;> rfl
@[simp] theorem nwO_t (d : D) : nwO true (.fz d) = .ok (.fz d) := Eq.trans rfl rfl
@[simp] theorem toD_f (o : O) : toD false o = .ok o.d := by cases o <;> simp [toD, O.d]
@[simp] theorem toD_t (p : Bool) (d : D) : toD p (.fz d) = .ok d := by cases p <;> rfl
@[simp] theorem O.d_fz (d : D) : (O.fz d).d = d := by simp [O.d]
@[simp] theorem O.d_ol (os : List O) : (O.ol os).d = .list (os.map O.d) := by simp [O.d, ods_map]
@[simp] theorem O.d_ot (os : List O) : (O.ot os).d = .tuple (os.map O.d) := by simp [O.d, ods_map]
@[simp] theorem map_d (ds : List D) : (ds.map O.fz).map O.d = ds := by
  induction ds with
  | nil => rfl
  | cons d ds ih => simp [O.d_fz, ih]
/-! a module's run, that does not unfold -/
theorem runX_ex : ∃ r, r = runM := ⟨_, rfl⟩
noncomputable def runX : Mo → Nat → Str → List D → List O → Rl := Classical.choose runX_ex
theorem runX_eq : runX = runM := Classical.choose_spec runX_ex
theorem runX_of {M : Mo} {k n : Nat} {f : Str} {md : List Bool} {b : Ss} (h : runM M (k + 1) f = fnR n md (evSs (gm M (runM M k)) k b)) : runX M (k + 1) f = fnR n md (Wss (gm M (runX M k)) k b) := by
  rw [runX_eq, Wss_eq]
  exact h
end Mw
/-! Mu2: the operations, by kinds. -/
namespace Mw
open PySem PySem.Spec PyProof.Rows L2
@[simp] theorem bo_add : bo .add = oAdd := Eq.trans rfl rfl
@[simp] theorem bo_sub : bo .sub = oSub := Eq.trans rfl rfl
@[simp] theorem bo_mul : bo .mul = oMul := Eq.trans rfl rfl
@[simp] theorem bo_div : bo .div = oDiv := Eq.trans rfl rfl
@[simp] theorem bo_mod : bo .mod = oMod := Eq.trans rfl rfl
section
variable {k : Nat}
@[simp] theorem co_lt : co k .lt = oLt := Eq.trans rfl rfl
@[simp] theorem co_le : co k .le = oLe := Eq.trans rfl rfl
@[simp] theorem co_gt : co k .gt = oGt := Eq.trans rfl rfl
@[simp] theorem co_ge : co k .ge = oGe := Eq.trans rfl rfl
@[simp] theorem co_eq : co k .eq = oEq k := Eq.trans rfl rfl
@[simp] theorem co_ne : co k .ne = oNe k := Eq.trans rfl rfl
@[simp] theorem co_in : co k .in_ = oIn k := Eq.trans rfl rfl
@[simp] theorem co_ni : co k .ni = oNi k := Eq.trans rfl rfl
end
@[simp] theorem bi_len : bi .len = oLen := Eq.trans rfl rfl
@[simp] theorem bi_list : bi .list = oList := Eq.trans rfl rfl
@[simp] theorem bi_tuple : bi .tuple = oTuple := Eq.trans rfl rfl
@[simp] theorem bi_max : bi .max = oMax := Eq.trans rfl rfl
@[simp] theorem bi_min : bi .min = oMin := Eq.trans rfl rfl
@[simp] theorem bi_all : bi .all = oAll := Eq.trans rfl rfl
@[simp] theorem bi_any : bi .any = oAny := Eq.trans rfl rfl
@[simp] theorem bi_sum : bi .sum = oSum := Eq.trans rfl rfl
@[simp] theorem bi_str : bi .str = oStr := Eq.trans rfl rfl
@[simp] theorem bi_int : bi .int = oInt := Eq.trans rfl rfl
@[simp] theorem m1_join : m1 .join = oJoin := Eq.trans rfl rfl
@[simp] theorem m1_split : m1 .split = oSplit := Eq.trans rfl rfl
@[simp] theorem m1_part : m1 .part = oPartn := Eq.trans rfl rfl
@[simp] theorem mu_app : mu .app = mApp := Eq.trans rfl rfl
@[simp] theorem mu_ins : mu .ins = mIns := Eq.trans rfl rfl
@[simp] theorem mu_rev : mu .rev = mRev := Eq.trans rfl rfl
@[simp] theorem mu_clr : mu .clr = mClr := Eq.trans rfl rfl
/-! is it a path? -/
@[simp] theorem pth_c {d : D} : pth (.c d) = false := by simp only [pth]
@[simp] theorem pth_v {i : Nat} : pth (.v i) = true := by simp only [pth]
@[simp] theorem pth_g {x : Str} : pth (.g x) = false := by simp only [pth]
@[simp] theorem pth_bin {o : Bo} {a b : E} : pth (.bin o a b) = false := by simp only [pth]
@[simp] theorem pth_cmp {o : Co} {a b : E} : pth (.cmp o a b) = false := by simp only [pth]
@[simp] theorem pth_isn {n : Bool} {a : E} : pth (.isn n a) = false := by simp only [pth]
@[simp] theorem pth_neg {a : E} : pth (.neg a) = false := by simp only [pth]
@[simp] theorem pth_not {a : E} : pth (.not a) = false := by simp only [pth]
@[simp] theorem pth_and {a b : E} : pth (.and a b) = pth b := by simp only [pth]
@[simp] theorem pth_or {a b : E} : pth (.or a b) = pth b := by simp only [pth]
@[simp] theorem pth_ite {c a b : E} : pth (.ite c a b) = (pth a || pth b) := by simp only [pth]
@[simp] theorem pth_tup {es : Es} : pth (.tup es) = false := by simp only [pth]
@[simp] theorem pth_lst {es : Es} : pth (.lst es) = false := by simp only [pth]
@[simp] theorem pth_ix {a b : E} : pth (.ix a b) = true := by simp only [pth]
@[simp] theorem pth_sl {a : E} {l u : Eo} : pth (.sl a l u) = false := by simp only [pth]
@[simp] theorem pth_call {f : Str} {es : Es} : pth (.call f es) = false := by simp only [pth]
@[simp] theorem pth_callb {f : Str} {es : Es} : pth (.callb f es) = false := by simp only [pth]
@[simp] theorem pth_bi {f : Bi} {es : Es} : pth (.bi f es) = false := by simp only [pth]
@[simp] theorem pth_isi {a : E} {T : String} : pth (.isi a T) = false := by simp only [pth]
@[simp] theorem pth_m1 {m : M1} {a b : E} : pth (.m1 m a b) = false := by simp only [pth]
@[simp] theorem pth_lc {t : Tg} {i : It} {c : Eo} {e : E} : pth (.lc t i c e) = false := by simp only [pth]
/-! a def's end, all its parameters data -/
section
variable {ρ : Ro} {o : O} {c : Str}
@[simp] theorem outs_nil : outsA [] ρ = some [] := Eq.trans rfl rfl
theorem outs_data {md : List Bool} (h : md.all (!·) = true) : outsA md ρ = some [] := by simp [outsA, h]
theorem fin_nx {md : List Bool} (h : md.all (!·) = true) : (Rs.nx ρ).fin md = .ok (.fz .none) [] := by simp [Rs.fin, outs_data h]
theorem fin_rt {md : List Bool} (h : md.all (!·) = true) : (Rs.rt o ρ).fin md = .ok o [] := by simp [Rs.fin, outs_data h]
theorem fin_rs {md : List Bool} (h : md.all (!·) = true) : (Rs.rs c ρ).fin md = .rs c [] := by simp [Rs.fin, outs_data h]
@[simp] theorem fin_nx0 : (Rs.nx ρ).fin [] = .ok (.fz .none) [] := Eq.trans rfl rfl
@[simp] theorem fin_rt0 : (Rs.rt o ρ).fin [] = .ok o [] := Eq.trans rfl rfl
@[simp] theorem fin_rs0 : (Rs.rs c ρ).fin [] = .rs c [] := Eq.trans rfl rfl
@[simp] theorem fin_nx1 {m : List Bool} : (Rs.nx ρ).fin (false :: m) = (Rs.nx ρ).fin m ∨ m.any id = true := by
  cases h : m.any id with
  | true => exact .inr rfl
  | false =>
    have : m.all (!·) = true := by rw [List.all_eq_not_any_not]; simpa using h
    exact .inl (by rw [fin_nx (by simpa using this), fin_nx this])
end
/-! kinds -/
section
variable {T : String}
@[simp] theorem isD_none : isD .none T = (T == "NoneType") := Eq.trans rfl rfl
@[simp] theorem isD_bool {b : Bool} : isD (.bool b) T = (T == "bool" || T == "int") := Eq.trans rfl rfl
@[simp] theorem isD_int {i : Int} : isD (.int i) T = (T == "int") := Eq.trans rfl rfl
@[simp] theorem isD_str {x : Str} : isD (.str x) T = (T == "str") := Eq.trans rfl rfl
@[simp] theorem isD_list {x : List D} : isD (.list x) T = (T == "list") := Eq.trans rfl rfl
@[simp] theorem isD_tuple {x : List D} : isD (.tuple x) T = (T == "tuple") := Eq.trans rfl rfl
@[simp] theorem isD_dict {x : List (D × D)} : isD (.dict x) T = (T == "dict") := Eq.trans rfl rfl
end
/-! slots -/
@[simp] theorem oVar_z {o : O} {ρ : Ro} : oVar 0 (some o :: ρ) = .ok o := Eq.trans rfl rfl
@[simp] theorem oVar_s {x : Option O} {ρ : Ro} {i : Nat} : oVar (i + 1) (x :: ρ) = oVar i ρ := by simp [oVar]
@[simp] theorem paV_z {o : O} {ρ : Ro} : paV 0 (some o :: ρ) = .ok (0, []) := Eq.trans rfl rfl
theorem paV_ok {i : Nat} {o : O} {ρ : Ro} (h : ρ[i]? = some (some o)) : paV i ρ = .ok (i, []) := by simp [paV, h]
theorem givR_ok {i : Nat} {o : O} {ρ : Ro} (h : ρ[i]? = some (some o)) : givR i ρ = ρ.set i (some (.fz o.d)) := by simp [givR, h]
theorem sRetV_fz {i : Nat} {d : D} {ρ : Ro} (h : ρ[i]? = some (some (.fz d))) : sRetV i ρ = .rt (.fz d) ρ := by simp [sRetV, h]
theorem sRetV_ol {i : Nat} {os : List O} {ρ : Ro} (h : ρ[i]? = some (some (.ol os))) : sRetV i ρ = .rt (.ol os) (ρ.set i none) := by simp [sRetV, h]
theorem sRetV_ot {i : Nat} {os : List O} {ρ : Ro} (h : ρ[i]? = some (some (.ot os))) : sRetV i ρ = .rt (.ot os) (ρ.set i none) := by simp [sRetV, h]
@[simp] theorem subO_nil {o : O} : subO o [] = some o := by cases o <;> rfl
@[simp] theorem putO_nil {o x : O} : putO o [] x = x := by cases o <;> rfl
/-! numbers -/
section
variable {i j : Int} {x y : Str}
@[simp] theorem oAdd_int : oAdd (.fz (.int i)) (.fz (.int j)) = .ok (.fz (.int (i + j))) := Eq.trans rfl rfl
theorem oAdd_str' : oAdd (.fz (.str x)) (.fz (.str y)) = if x.length + y.length ≤ sizeLine then .ok (.fz (.str (x ++ y))) else .st := rfl
theorem oAdd_str (h : x.length + y.length ≤ sizeLine) : oAdd (.fz (.str x)) (.fz (.str y)) = .ok (.fz (.str (x ++ y))) := by rw [oAdd_str', if_pos h]
theorem oAdd_tup {xs ys : List D} (h : xs.length + ys.length ≤ sizeLine) : oAdd (.fz (.tuple xs)) (.fz (.tuple ys)) = .ok (.fz (.tuple (xs ++ ys))) := by simp [oAdd, h]
theorem oAdd_lst {a b : O} {xs ys : List D} (ha : a.lst? = some xs) (hb : b.lst? = some ys) (h : xs.length + ys.length ≤ sizeLine) : oAdd a b = .ok (.ol ((xs ++ ys).map .fz)) := by
  unfold oAdd
  split
  · cases ha
  · cases ha
  · cases ha
  · rw [ha, hb]; simp only; rw [if_pos h]
@[simp] theorem oSub_int : oSub (.fz (.int i)) (.fz (.int j)) = .ok (.fz (.int (i - j))) := Eq.trans rfl rfl
theorem oMul_l (h : small64 i = true) : oMul (.fz (.int i)) (.fz (.int j)) = .ok (.fz (.int (i * j))) := by simp [oMul, h]
theorem oMul_r (h : small64 j = true) : oMul (.fz (.int i)) (.fz (.int j)) = .ok (.fz (.int (i * j))) := by simp [oMul, h]
theorem oDiv_int (h : 0 < j ∧ j < 1073741824) : oDiv (.fz (.int i)) (.fz (.int j)) = .ok (.fz (.int (i / j))) := by simp [oDiv, h]
theorem oMod_int (h : 0 < j) : oMod (.fz (.int i)) (.fz (.int j)) = .ok (.fz (.int (i % j))) := by simp [oMod, h]
@[simp] theorem oNeg_int : oNeg (.fz (.int i)) = .ok (.fz (.int (-i))) := Eq.trans rfl rfl
@[simp] theorem oLt_int : oLt (.fz (.int i)) (.fz (.int j)) = .ok (.fz (.bool (decide (i < j)))) := Eq.trans rfl rfl
@[simp] theorem oLe_int : oLe (.fz (.int i)) (.fz (.int j)) = .ok (.fz (.bool (decide (i ≤ j)))) := Eq.trans rfl rfl
@[simp] theorem oGt_int : oGt (.fz (.int i)) (.fz (.int j)) = .ok (.fz (.bool (decide (j < i)))) := Eq.trans rfl rfl
@[simp] theorem oGe_int : oGe (.fz (.int i)) (.fz (.int j)) = .ok (.fz (.bool (decide (j ≤ i)))) := Eq.trans rfl rfl
@[simp] theorem oTru0_b {b : Bool} : oTru0 (.fz (.bool b)) = .ok b := Eq.trans rfl rfl
@[simp] theorem oTru_b {b : Bool} : oTru (.fz (.bool b)) = .ok b := Eq.trans rfl rfl
@[simp] theorem oTru_n : oTru (.fz .none) = .ok false := Eq.trans rfl rfl
@[simp] theorem oTru_i : oTru (.fz (.int i)) = .ok (i != 0) := Eq.trans rfl rfl
@[simp] theorem oB_def {b : Bool} : oB b = .ok (.fz (.bool b)) := Eq.trans rfl rfl
theorem eq_of_ok {k : Nat} {a b : D} (h : eqOk k a b = true) : oEq k (.fz a) (.fz b) = .ok (.fz (.bool (PyData.eqv a b))) := by simp [oEq, O.d_fz, h]
theorem ne_of_ok {k : Nat} {a b : D} (h : eqOk k a b = true) : oNe k (.fz a) (.fz b) = .ok (.fz (.bool (!PyData.eqv a b))) := by simp [oNe, O.d_fz, h]
theorem nod_depth0 {a : D} (h : match a with | .none | .bool _ | .int _ | .str _ => True | _ => False) : nod a = true ∧ a.depth = 0 := by
  cases a <;> simp [nod, PyData.depth] at h ⊢
@[simp] theorem oEq_int {k : Nat} : oEq k (.fz (.int i)) (.fz (.int j)) = .ok (.fz (.bool (decide (i = j)))) := by
  rw [eq_of_ok (by simp [eqOk, nod, PyData.depth])]; by_cases h : i = j <;> simp [PyData.eqv, h]
@[simp] theorem oNe_int {k : Nat} : oNe k (.fz (.int i)) (.fz (.int j)) = .ok (.fz (.bool (!decide (i = j)))) := by
  rw [ne_of_ok (by simp [eqOk, nod, PyData.depth])]; by_cases h : i = j <;> simp [PyData.eqv, h]
@[simp] theorem oEq_str {k : Nat} : oEq k (.fz (.str x)) (.fz (.str y)) = .ok (.fz (.bool (decide (x = y)))) := by
  rw [eq_of_ok (by simp [eqOk, nod, PyData.depth])]; by_cases h : x = y <;> simp [PyData.eqv, h]
@[simp] theorem oNe_str {k : Nat} : oNe k (.fz (.str x)) (.fz (.str y)) = .ok (.fz (.bool (!decide (x = y)))) := by
  rw [ne_of_ok (by simp [eqOk, nod, PyData.depth])]; by_cases h : x = y <;> simp [PyData.eqv, h]
@[simp] theorem oEq_bool {k : Nat} {a b : Bool} : oEq k (.fz (.bool a)) (.fz (.bool b)) = .ok (.fz (.bool (a == b))) := by
  rw [eq_of_ok (by simp [eqOk, nod, PyData.depth])]; simp [PyData.eqv]
@[simp] theorem oNe_bool {k : Nat} {a b : Bool} : oNe k (.fz (.bool a)) (.fz (.bool b)) = .ok (.fz (.bool (!(a == b)))) := by
  rw [ne_of_ok (by simp [eqOk, nod, PyData.depth])]; simp [PyData.eqv]
/-- a text in a text -/
def inT (x y : Str) : Bool := !(Builtin.Str.occurrences y x 0 y.length 1).isEmpty
@[simp] theorem oIn_str {k : Nat} : oIn k (.fz (.str x)) (.fz (.str y)) = .ok (.fz (.bool (inT x y))) := Eq.trans rfl rfl
@[simp] theorem oNi_str {k : Nat} : oNi k (.fz (.str x)) (.fz (.str y)) = .ok (.fz (.bool (!inT x y))) := Eq.trans rfl rfl
theorem oLen_str (h : x.length ≤ sizeLine) : oLen [.fz (.str x)] = .ok (.fz (.int x.length)) := by simp [oLen, h]
@[simp] theorem oLen_list {ds : List D} : oLen [.fz (.list ds)] = .ok (.fz (.int ds.length)) := Eq.trans rfl rfl
@[simp] theorem oLen_tuple {ds : List D} : oLen [.fz (.tuple ds)] = .ok (.fz (.int ds.length)) := Eq.trans rfl rfl
@[simp] theorem oLen_ol {ds : List O} : oLen [.ol ds] = .ok (.fz (.int ds.length)) := Eq.trans rfl rfl
@[simp] theorem oLen_ot {ds : List O} : oLen [.ot ds] = .ok (.fz (.int ds.length)) := Eq.trans rfl rfl
end
/-- a text's signs -/
def cs (z : Str) : List Nat := z.cps.toList
/-- a text of one sign -/
def sgn (c : Nat) : Str := ⟨#[c]⟩
@[simp] theorem sgn_len (c : Nat) : (sgn c).length = 1 := Eq.trans rfl rfl
/-! what stands where -/
@[simp] theorem lst_list {ds : List D} : (O.fz (.list ds)).lst? = some ds := Eq.trans rfl rfl
@[simp] theorem lst_ol {ds : List D} : (O.ol (ds.map O.fz)).lst? = some ds := fzs_map ds
@[simp] theorem fzs_nil : fzs [] = some [] := Eq.trans rfl rfl
@[simp] theorem fzs_cons {d : D} {r : List O} : fzs (.fz d :: r) = (fzs r).map (d :: ·) := Eq.trans rfl rfl
theorem ix_list' {ds : List D} {i : Int} {d : D} (h : atI ds i = some d) : oIx (.fz (.list ds)) (.fz (.int i)) = .ok (.fz d) := by simp [oIx, h]
theorem ix_tuple' {ds : List D} {i : Int} {d : D} (h : atI ds i = some d) : oIx (.fz (.tuple ds)) (.fz (.int i)) = .ok (.fz d) := by simp [oIx, h]
theorem ix_ol' {ds : List O} {i : Int} {d : O} (h : atI ds i = some d) : oIx (.ol ds) (.fz (.int i)) = .ok d := by simp [oIx, h]
theorem ix_str' {z : Str} {i : Int} {c : Nat} (h : atI (cs z) i = some c) (hz : z.length ≤ sizeLine) : oIx (.fz (.str z)) (.fz (.int i)) = .ok (.fz (.str (sgn c))) := by
  have h' : atI z.cps.toList i = some c := h
  simp only [oIx]
  rw [h']
  simp [hz, sgn]
@[simp] theorem items_str {z : Str} : oItems (.fz (.str z)) = .ok ((cs z).map fun c => .str (sgn c)) := Eq.trans rfl rfl
@[simp] theorem items_list {ds : List D} : oItems (.fz (.list ds)) = .ok ds := Eq.trans rfl rfl
@[simp] theorem items_tuple {ds : List D} : oItems (.fz (.tuple ds)) = .ok ds := Eq.trans rfl rfl
theorem rng1 {j : Int} (h : in62 j = true) : oRng [.fz (.int j)] = .ok (rngD 0 j.toNat) := by simp [oRng, h]
theorem rng2 {i j : Int} (h : in62 i = true) (h2 : in62 j = true) : oRng [.fz (.int i), .fz (.int j)] = .ok (rngD i (j - i).toNat) := by simp [oRng, h, h2]
theorem in62_of {j : Int} (h : -4611686018427387904 ≤ j) (h2 : j < 4611686018427387904) : in62 j = true := by
  unfold in62
  simp
  omega
theorem small64_of {j : Int} (h : -18446744073709551616 < j) (h2 : j < 18446744073709551616) : small64 j = true := by
  unfold small64
  simp
  omega
theorem size_ok {n : Nat} (h : n ≤ 16777216) : n ≤ sizeLine := by
  have : sizeLine = 16777216 := by decide
  omega
end Mw
/-! Mu3: texts as lists of numbers; subscripts and slices in bounds. -/
namespace Mw
open PySem PySem.Spec PyProof.Rows L2
@[simp] theorem emp_len : (Str.ofString "").length = 0 := by decide +kernel
@[simp] theorem emp_cs : cs (Str.ofString "") = [] := by decide +kernel
theorem emp_app (x : Str) : Str.ofString "" ++ x = x := by
  cases x with | mk a => show Str.mk _ = _; congr 1; simp [show (Str.ofString "").cps = #[] by decide +kernel]
@[simp] theorem fzs_mapf {α : Type} (f : α → D) : ∀ l : List α, fzs (l.map fun c => O.fz (f c)) = some (l.map f)
  | [] => rfl
  | a :: l => by simp [fzs_mapf f l]
theorem str_ext {x y : Str} (h : cs x = cs y) : x = y := by
  cases x with | mk a => cases y with | mk b => exact congrArg Str.mk (Array.ext' h)
theorem app_cs (x y : Str) : cs (x ++ y) = cs x ++ cs y := by
  show (x.cps ++ y.cps).toList = x.cps.toList ++ y.cps.toList
  simp
theorem app_len (x y : Str) : (x ++ y).length = x.length + y.length := by
  show (x.cps ++ y.cps).size = _
  simp [Str.length]
theorem len_cs (x : Str) : x.length = (cs x).length := by simp [Str.length, cs]
@[simp] theorem one_len (c : Nat) : (Str.mk #[c]).length = 1 := Eq.trans rfl rfl
theorem cut_le (z : Str) (lo hi : Option Int) : (cutS z lo hi).length ≤ z.length := by
  unfold cutS
  simp [Str.length]
  omega
/-- a place within -/
theorem atI_in {α : Type} {xs : List α} {i : Int} (h0 : 0 ≤ i) (h1 : i < xs.length) : ∃ x, atI xs i = some x ∧ xs[i.toNat]? = some x := by
  have hl : i.toNat < xs.length := by omega
  refine ⟨xs[i.toNat], ?_, List.getElem?_eq_getElem hl⟩
  unfold atI ixN
  rw [if_pos h0, if_pos h1]
  exact List.getElem?_eq_getElem hl
theorem atI_map {α β : Type} (f : α → β) (xs : List α) (i : Int) : atI (xs.map f) i = (atI xs i).map f := by
  unfold atI
  rw [List.length_map]
  cases ixN xs.length i with
  | none => rfl
  | some j => simp
theorem atI_map_some {α β : Type} {f : α → β} {xs : List α} {i : Int} {x : α} (h : atI xs i = some x) : atI (xs.map f) i = some (f x) := by rw [atI_map, h] <;> rfl
theorem atI_nat' {α : Type} {xs : List α} {n : Nat} {x : α} (h : xs[n]? = some x) : atI xs (n : Int) = some x := L2.atI_nat h
theorem rngD_zero (lo : Int) : rngD lo 0 = [] := rfl
theorem rngD_succ (lo : Int) (n : Nat) : rngD lo (n + 1) = .int lo :: rngD (lo + 1) n := by
  unfold rngD
  rw [List.range_succ_eq_map]
  simp
  intro a _
  omega
theorem rngD_snoc (lo : Int) (n : Nat) : rngD lo (n + 1) = rngD lo n ++ [.int (lo + n)] := by
  unfold rngD
  rw [List.range_succ]
  simp
end Mw
/-! the trees of the law law_k01_heads_told: printed by gen.py -/
namespace Law
open PySem PySem.Spec PyProof.Rows L2 Mw
abbrev top (i : Nat) : Stmt := PySem.Challenge.pw_warden_k01_heads_told.main.body.getD i (.Pass ⟨0, 0, 0, 0⟩)
def z_0 : Str := ("abcdefghijklmnopqrstuvwxyz" : Str)
@[simp] theorem z_0_len : z_0.length = 26 := by decide +kernel
def z_1 : Str := ("ABCDEFGHIJKLMNOPQRSTUVWXYZ" : Str)
@[simp] theorem z_1_len : z_1.length = 26 := by decide +kernel
def z_2 : Str := ("0123456789 !\"#$&'()*+,-./:;<=>?@" : Str) ++ ("[\\]^_`{|}~\n" : Str)
@[simp] theorem z_2_len : z_2.length = 43 := by decide +kernel
def z_3 : Str := ("0123456789" : Str)
@[simp] theorem z_3_len : z_3.length = 10 := by decide +kernel
def z_4 : Str := ("abcdefghijklmnopqrstuvwxyz0123456789" : Str)
@[simp] theorem z_4_len : z_4.length = 36 := by decide +kernel
/-! d_all_of -/
def b_all_of_1 : Ss := (.cons (.ite (.cmp .ni (.v 3) (.v 1)) (.cons (.ret (.c (.bool false))) .nil) .nil) .nil)
def k_all_of_1 : Ss := (.cons (.ret (.c (.bool true))) .nil)
def k_all_of_2 : Ss := (.cons (.fr (.one 3) (.any (.v 0)) b_all_of_1) k_all_of_1)
def d_all_of : Ss :=
  (.cons (.ite (.or (.not (.isi (.v 0) "str")) (.or (.cmp .lt (.bi .len (.cons (.v 0) .nil)) (.c (.int 1))) (.cmp .gt (.bi .len (.cons (.v 0) .nil)) (.v 2)))) (.cons (.ret (.c (.bool false))) .nil) .nil) k_all_of_2)
/-! d_is_tag -/
def d_is_tag : Ss :=
  (.cons (.ret (.call "all_of" (.cons (.v 0) (.cons (.g "SMALL") (.cons (.c (.int 8)) .nil))))) .nil)
/-! d_is_word -/
def d_is_word : Ss :=
  (.cons (.ret (.call "all_of" (.cons (.v 0) (.cons (.g "WORD_SIGNS") (.cons (.c (.int 60)) .nil))))) .nil)
/-! d_is_name -/
def d_is_name : Ss :=
  (.cons (.ret (.call "all_of" (.cons (.v 0) (.cons (.g "GREAT") (.cons (.c (.int 8)) .nil))))) .nil)
/-! d_l_cell_at -/
def k_l_cell_at_1 : Ss := (.cons (.ret (.c (.int 0))) .nil)
def d_l_cell_at : Ss :=
  (.cons (.ite (.cmp .lt (.v 1) (.bi .len (.cons (.v 0) .nil))) (.cons (.ret (.ix (.v 0) (.v 1))) .nil) .nil) k_l_cell_at_1)
/-! d_l_mix -/
def d_l_mix : Ss :=
  (.cons (.ret (.bin .mod (.bin .add (.bin .add (.bin .mul (.bin .mod (.v 0) (.c (.int 2147483647))) (.c (.int 48271))) (.bin .mul (.v 1) (.c (.int 7919)))) (.c (.int 11))) (.c (.int 2147483647)))) .nil)
/-! d_l_small -/
def d_l_small : Ss :=
  (.cons (.ret (.c (.str z_0))) .nil)
/-! d_l_great -/
def d_l_great : Ss :=
  (.cons (.ret (.c (.str z_1))) .nil)
/-! d_l_any -/
def d_l_any : Ss :=
  (.cons (.ret (.bin .add (.bin .add (.call "_law_small" .nil) (.call "_law_great" .nil)) (.c (.str z_2)))) .nil)
/-! d_l_text_of -/
def b_l_text_of_1 : Ss := (.cons (.set 4 (.call "_law_mix" (.cons (.bin .add (.v 4) (.call "_law_cell_at" (.cons (.v 0) (.cons (.bin .add (.c (.int 4)) (.v 5)) .nil)))) (.cons (.v 5) .nil)))) (.cons (.set 3 (.bin .add (.v 3) (.ix (.v 1) (.bin .mod (.v 4) (.bi .len (.cons (.v 1) .nil)))))) .nil))
def k_l_text_of_1 : Ss := (.cons (.retV 3) .nil)
def d_l_text_of : Ss :=
  (.cons (.set 3 (.c (.str ""))) (.cons (.set 4 (.c (.int 7))) (.cons (.fr (.one 5) (.rng (.cons (.v 2) .nil)) b_l_text_of_1) k_l_text_of_1)))
/-! d_l_other -/
def d_l_other : Ss :=
  (.cons (.set 1 (.lst (.cons (.c (.none)) (.cons (.c (.bool true)) (.cons (.c (.bool false)) (.cons (.c (.int 0)) (.cons (.c (.int 1)) (.cons (.neg (.c (.int 7))) (.cons (.lst .nil) (.cons (.lst (.cons (.c (.str "a")) .nil)) (.cons (.tup (.cons (.c (.str "a")) .nil)) (.cons (.lst (.cons (.c (.str "A")) (.cons (.c (.str "B")) .nil))) (.cons (.tup .nil) (.cons (.tup (.cons (.c (.str "Q")) (.cons (.c (.str "R")) .nil))) .nil)))))))))))))) (.cons (.giv 1 (.ret (.ix (.v 1) (.bin .mod (.v 0) (.c (.int 12)))))) .nil))
/-! d_l_due -/
def x_l_due_1 : E := .cmp .in_ (.v 3) (.v 1)
def k_l_due_1 : Ss := (.cons (.ret (.bi .all (.cons (.lc (.one 3) (.any (.v 0)) .no x_l_due_1) .nil))) .nil)
def d_l_due : Ss :=
  (.cons (.ite (.or (.cmp .lt (.bi .len (.cons (.v 0) .nil)) (.c (.int 1))) (.cmp .gt (.bi .len (.cons (.v 0) .nil)) (.v 2))) (.cons (.ret (.c (.bool false))) .nil) .nil) k_l_due_1)
/-! d_l_answers -/
def b_l_answers_1 : Ss := (.cons (.ite (.or (.not (.isi (.ix (.v 2) (.v 3)) "bool")) (.cmp .ne (.ix (.v 2) (.v 3)) (.ix (.v 1) (.v 3)))) (.cons (.ret (.c (.bool false))) .nil) .nil) .nil)
def k_l_answers_1 : Ss := (.cons (.ret (.c (.bool true))) .nil)
def d_l_answers : Ss :=
  (.cons (.set 2 (.lst (.cons (.call "is_tag" (.cons (.v 0) .nil)) (.cons (.call "is_word" (.cons (.v 0) .nil)) (.cons (.call "is_name" (.cons (.v 0) .nil)) .nil))))) (.cons (.giv 2 (.fr (.one 3) (.rng (.cons (.c (.int 3)) .nil)) b_l_answers_1)) k_l_answers_1))
/-! d_law -/
def k_law_1 : Ss := (.cons (.ret (.call "_law_answers" (.cons (.v 4) (.cons (.v 6) .nil)))) .nil)
def k_law_2 : Ss := (.cons (.giv 4 (.set 6 (.lst (.cons (.call "_law_due" (.cons (.v 4) (.cons (.call "_law_small" .nil) (.cons (.c (.int 8)) .nil)))) (.cons (.call "_law_due" (.cons (.v 4) (.cons (.bin .add (.call "_law_small" .nil) (.c (.str z_3))) (.cons (.c (.int 60)) .nil)))) .nil))))) (.cons (.mut .app (.v 6) (.cons (.call "_law_due" (.cons (.v 4) (.cons (.call "_law_great" .nil) (.cons (.c (.int 8)) .nil)))) .nil)) (.cons (.giv 6 (.ite (.not (.call "_law_answers" (.cons (.call "_law_other" (.cons (.bin .div (.call "_law_cell_at" (.cons (.v 0) (.cons (.c (.int 0)) .nil))) (.c (.int 4))) .nil)) (.cons (.lst (.cons (.c (.bool false)) (.cons (.c (.bool false)) (.cons (.c (.bool false)) .nil)))) .nil)))) (.cons (.ret (.c (.bool false))) .nil) .nil)) k_law_1)))
def k_law_3 : Ss := (.cons (.set 4 (.call "_law_text_of" (.cons (.v 0) (.cons (.v 2) (.cons (.v 3) .nil))))) (.cons (.ite (.and (.cmp .eq (.bin .mod (.bin .div (.call "_law_cell_at" (.cons (.v 0) (.cons (.c (.int 2)) .nil))) (.c (.int 3))) (.c (.int 3))) (.c (.int 1))) (.cmp .gt (.v 3) (.c (.int 0)))) (.cons (.set 5 (.bin .mod (.call "_law_mix" (.cons (.call "_law_cell_at" (.cons (.v 0) (.cons (.c (.int 3)) .nil))) (.cons (.c (.int 1)) .nil))) (.v 3))) (.cons (.set 4 (.bin .add (.bin .add (.sl (.v 4) .no (.so (.v 5))) (.ix (.call "_law_any" .nil) (.bin .mod (.call "_law_mix" (.cons (.call "_law_cell_at" (.cons (.v 0) (.cons (.c (.int 3)) .nil))) (.cons (.c (.int 2)) .nil))) (.bi .len (.cons (.call "_law_any" .nil) .nil))))) (.sl (.v 4) (.so (.bin .add (.v 5) (.c (.int 1)))) .no))) .nil)) .nil) k_law_2))
def d_law : Ss :=
  (.cons (.set 1 (.lst (.cons (.call "_law_small" .nil) (.cons (.call "_law_great" .nil) (.cons (.bin .add (.call "_law_small" .nil) (.c (.str z_3))) (.cons (.call "_law_any" .nil) .nil)))))) (.cons (.giv 1 (.set 2 (.ix (.v 1) (.bin .mod (.call "_law_cell_at" (.cons (.v 0) (.cons (.c (.int 0)) .nil))) (.c (.int 4)))))) (.cons (.set 3 (.bin .mod (.call "_law_cell_at" (.cons (.v 0) (.cons (.c (.int 1)) .nil))) (.c (.int 12)))) (.cons (.ite (.cmp .eq (.bin .mod (.call "_law_cell_at" (.cons (.v 0) (.cons (.c (.int 2)) .nil))) (.c (.int 3))) (.c (.int 1))) (.cons (.set 3 (.bin .add (.c (.int 56)) (.bin .mod (.bin .div (.call "_law_cell_at" (.cons (.v 0) (.cons (.c (.int 1)) .nil))) (.c (.int 12))) (.c (.int 8))))) .nil) .nil) k_law_3))))
def e_all_of : De := ⟨top 4, "all_of", ["thing", "signs", "most", "sign"], ["thing", "signs", "most"], [false, false, false], d_all_of⟩
def e_is_tag : De := ⟨top 5, "is_tag", ["thing"], ["thing"], [false], d_is_tag⟩
def e_is_word : De := ⟨top 6, "is_word", ["thing"], ["thing"], [false], d_is_word⟩
def e_is_name : De := ⟨top 7, "is_name", ["thing"], ["thing"], [false], d_is_name⟩
def e_l_cell_at : De := ⟨top 9, "_law_cell_at", ["_law_script", "_law_k"], ["_law_script", "_law_k"], [false, false], d_l_cell_at⟩
def e_l_mix : De := ⟨top 10, "_law_mix", ["_law_seed", "_law_k"], ["_law_seed", "_law_k"], [false, false], d_l_mix⟩
def e_l_small : De := ⟨top 11, "_law_small", [], [], [], d_l_small⟩
def e_l_great : De := ⟨top 12, "_law_great", [], [], [], d_l_great⟩
def e_l_any : De := ⟨top 13, "_law_any", [], [], [], d_l_any⟩
def e_l_text_of : De := ⟨top 14, "_law_text_of", ["_law_script", "_law_signs", "_law_many", "_law_text", "_law_seed", "_law_k"], ["_law_script", "_law_signs", "_law_many"], [false, false, false], d_l_text_of⟩
def e_l_other : De := ⟨top 15, "_law_other", ["_law_cell", "_law_some"], ["_law_cell"], [false], d_l_other⟩
def e_l_due : De := ⟨top 16, "_law_due", ["_law_text", "_law_signs", "_law_most", "_law_sign"], ["_law_text", "_law_signs", "_law_most"], [false, false, false], d_l_due⟩
def e_l_answers : De := ⟨top 17, "_law_answers", ["_law_thing", "_law_due_here", "_law_told", "_law_k"], ["_law_thing", "_law_due_here"], [false, false], d_l_answers⟩
def e_law : De := ⟨top 18, "law", ["_law_script", "_law_menu", "_law_signs", "_law_many", "_law_text", "_law_at", "_law_due_here"], ["_law_script"], [false], d_law⟩
def mo : Mo where
  bl := ["all", "bool", "isinstance", "len", "range", "str"]
  gs := [("SMALL", z_0), ("GREAT", z_1), ("WORD_SIGNS", z_4)]
  gi := []
  ex := []
  fuel := 100000
  ds := [e_all_of, e_is_tag, e_is_word, e_is_name, e_l_cell_at, e_l_mix, e_l_small, e_l_great, e_l_any, e_l_text_of, e_l_other, e_l_due, e_l_answers, e_law]
theorem r_all_of (k : Nat) : runX mo (k + 1) "all_of" = fnR 4 [false, false, false] (Wss (gm mo (runX mo k)) k d_all_of) := runX_of (by kernel_rfl)
theorem r_is_tag (k : Nat) : runX mo (k + 1) "is_tag" = fnR 1 [false] (Wss (gm mo (runX mo k)) k d_is_tag) := runX_of (by kernel_rfl)
theorem r_is_word (k : Nat) : runX mo (k + 1) "is_word" = fnR 1 [false] (Wss (gm mo (runX mo k)) k d_is_word) := runX_of (by kernel_rfl)
theorem r_is_name (k : Nat) : runX mo (k + 1) "is_name" = fnR 1 [false] (Wss (gm mo (runX mo k)) k d_is_name) := runX_of (by kernel_rfl)
theorem r_l_cell_at (k : Nat) : runX mo (k + 1) "_law_cell_at" = fnR 2 [false, false] (Wss (gm mo (runX mo k)) k d_l_cell_at) := runX_of (by kernel_rfl)
theorem r_l_mix (k : Nat) : runX mo (k + 1) "_law_mix" = fnR 2 [false, false] (Wss (gm mo (runX mo k)) k d_l_mix) := runX_of (by kernel_rfl)
theorem r_l_small (k : Nat) : runX mo (k + 1) "_law_small" = fnR 0 [] (Wss (gm mo (runX mo k)) k d_l_small) := runX_of (by kernel_rfl)
theorem r_l_great (k : Nat) : runX mo (k + 1) "_law_great" = fnR 0 [] (Wss (gm mo (runX mo k)) k d_l_great) := runX_of (by kernel_rfl)
theorem r_l_any (k : Nat) : runX mo (k + 1) "_law_any" = fnR 0 [] (Wss (gm mo (runX mo k)) k d_l_any) := runX_of (by kernel_rfl)
theorem r_l_text_of (k : Nat) : runX mo (k + 1) "_law_text_of" = fnR 6 [false, false, false] (Wss (gm mo (runX mo k)) k d_l_text_of) := runX_of (by kernel_rfl)
theorem r_l_other (k : Nat) : runX mo (k + 1) "_law_other" = fnR 2 [false] (Wss (gm mo (runX mo k)) k d_l_other) := runX_of (by kernel_rfl)
theorem r_l_due (k : Nat) : runX mo (k + 1) "_law_due" = fnR 4 [false, false, false] (Wss (gm mo (runX mo k)) k d_l_due) := runX_of (by kernel_rfl)
theorem r_l_answers (k : Nat) : runX mo (k + 1) "_law_answers" = fnR 4 [false, false] (Wss (gm mo (runX mo k)) k d_l_answers) := runX_of (by kernel_rfl)
theorem r_law (k : Nat) : runX mo (k + 1) "law" = fnR 7 [false] (Wss (gm mo (runX mo k)) k d_law) := runX_of (by kernel_rfl)
@[simp] theorem g_SMALL {r : Str → List D → List O → Rl} : (gm mo r).s.gl.lookup ("SMALL" : Str) = some (.str z_0) := by kernel_rfl
@[simp] theorem g_GREAT {r : Str → List D → List O → Rl} : (gm mo r).s.gl.lookup ("GREAT" : Str) = some (.str z_1) := by kernel_rfl
@[simp] theorem g_WORD_SIGNS {r : Str → List D → List O → Rl} : (gm mo r).s.gl.lookup ("WORD_SIGNS" : Str) = some (.str z_4) := by kernel_rfl
@[simp] theorem gm_run {r : Str → List D → List O → Rl} {k : Nat} {f : Str} : (gm mo r).run k f = r f := Eq.trans rfl rfl
theorem mo_ok : mo.ok = true := by decide +kernel
theorem mo_bind : ∀ d ∈ mo.ds, BindOk d := by
  intro d hd
  simp only [mo, List.mem_cons, List.not_mem_nil, or_false] at hd
  rcases hd with rfl | rfl | rfl | rfl | rfl | rfl | rfl | rfl | rfl | rfl | rfl | rfl | rfl | rfl
  · exact fun _ _ _ _ _ _ us hl => match us, hl with | [_, _, _], _ => rfl
  · exact fun _ _ _ _ _ _ us hl => match us, hl with | [_], _ => rfl
  · exact fun _ _ _ _ _ _ us hl => match us, hl with | [_], _ => rfl
  · exact fun _ _ _ _ _ _ us hl => match us, hl with | [_], _ => rfl
  · exact fun _ _ _ _ _ _ us hl => match us, hl with | [_, _], _ => rfl
  · exact fun _ _ _ _ _ _ us hl => match us, hl with | [_, _], _ => rfl
  · exact fun _ _ _ _ _ _ us hl => match us, hl with | [], _ => rfl
  · exact fun _ _ _ _ _ _ us hl => match us, hl with | [], _ => rfl
  · exact fun _ _ _ _ _ _ us hl => match us, hl with | [], _ => rfl
  · exact fun _ _ _ _ _ _ us hl => match us, hl with | [_, _, _], _ => rfl
  · exact fun _ _ _ _ _ _ us hl => match us, hl with | [_], _ => rfl
  · exact fun _ _ _ _ _ _ us hl => match us, hl with | [_, _, _], _ => rfl
  · exact fun _ _ _ _ _ _ us hl => match us, hl with | [_, _], _ => rfl
  · exact fun _ _ _ _ _ _ us hl => match us, hl with | [_], _ => rfl
end Law
namespace Law
open PySem PySem.Spec PyProof.Rows L2 Mw
def inS (s : Str) (c : Nat) : Bool := inT (sgn c) s
theorem step_all_of (k : Nat) (r : Str → List D → List O → Rl) (t m : O) (s : Str) (c : Nat) : Wss (gm mo r) k b_all_of_1 [some t, some (.fz (.str s)), some m, some (.fz (.str (sgn c)))]
    = if inS s c then .nx [some t, some (.fz (.str s)), some m, some (.fz (.str (sgn c)))] else .rt (.fz (.bool false)) [some t, some (.fz (.str s)), some m, some (.fz (.str (sgn c)))] := by
  cases h : inS s c <;> unfold inS at h <;> simp [b_all_of_1, h]
theorem loop_all_of (k : Nat) (r : Str → List D → List O → Rl) (t m : O) (s : Str) : ∀ (cs : List Nat) (x : Option O), ∃ ρ, forL (.one 3) (Wss (gm mo r) k b_all_of_1) (cs.map fun c => .str (sgn c)) [some t, some (.fz (.str s)), some m, x]
    = if cs.all (inS s) then .nx ρ else .rt (.fz (.bool false)) ρ := by
  intro cs
  induction cs with
  | nil => exact fun x => ⟨_, rfl⟩
  | cons c cs ih =>
    intro x
    rw [List.map_cons, xr_one (by simp)]
    simp only [List.set_cons_succ, List.set_cons_zero, step_all_of]
    cases h : inS s c with
    | true =>
      obtain ⟨ρ, e⟩ := ih (some (.fz (.str (sgn c))))
      exact ⟨ρ, by simp [h, e]⟩
    | false => exact ⟨_, by simp [h]; rfl⟩
def allB (t s : Str) (m : Int) : Bool := decide (1 ≤ (t.length : Int)) && decide ((t.length : Int) ≤ m) && (cs t).all (inS s)
theorem all_of_str (k : Nat) (t s : Str) (m : Int) (ht : t.length ≤ sizeLine) : runX mo (k + 1) "all_of" [.str t, .str s, .int m] [] = .ok (.fz (.bool (allB t s m))) [] := by
  rw [r_all_of]
  obtain ⟨ρ, e⟩ := loop_all_of k (runX mo k) (.fz (.str t)) (.fz (.int m)) s (cs t) none
  unfold allB
  by_cases h1 : (t.length : Int) < 1
  · simp [fnR, mergeA, d_all_of, k_all_of_1, k_all_of_2, oLen_str ht, h1, fin_rt]
    intro h; omega
  · by_cases h2 : m < (t.length : Int)
    · simp [fnR, mergeA, d_all_of, k_all_of_1, k_all_of_2, oLen_str ht, h1, h2, fin_rt]
      intro _ h; omega
    · cases h3 : (cs t).all (inS s) with
      | true =>
        rw [h3] at e
        simp [fnR, mergeA, d_all_of, k_all_of_1, k_all_of_2, oLen_str ht, h1, h2, e, fin_rt]
        omega
      | false =>
        rw [h3] at e
        simp [fnR, mergeA, d_all_of, k_all_of_1, k_all_of_2, oLen_str ht, h1, h2, e, fin_rt]
theorem all_of_other (k : Nat) (d : D) (s : Str) (m : Int) (hd : isD d "str" = false) : runX mo (k + 1) "all_of" [d, .str s, .int m] [] = .ok (.fz (.bool false)) [] := by
  rw [r_all_of]
  simp [fnR, mergeA, d_all_of, k_all_of_1, k_all_of_2, hd, fin_rt]
@[simp] theorem ofO_some {p : Bool} {d : D} : ofO p (some d) = .ok (.fz d) := rfl
theorem is_tag_str (k : Nat) (t : Str) (ht : t.length ≤ sizeLine) : runX mo (k + 2) "is_tag" [.str t] [] = .ok (.fz (.bool (allB t z_0 8))) [] := by
  rw [r_is_tag]
  simp [fnR, mergeA, d_is_tag, all_of_str k t _ _ ht, fin_rt]
theorem is_word_str (k : Nat) (t : Str) (ht : t.length ≤ sizeLine) : runX mo (k + 2) "is_word" [.str t] [] = .ok (.fz (.bool (allB t z_4 60))) [] := by
  rw [r_is_word]
  simp [fnR, mergeA, d_is_word, all_of_str k t _ _ ht, fin_rt]
theorem is_name_str (k : Nat) (t : Str) (ht : t.length ≤ sizeLine) : runX mo (k + 2) "is_name" [.str t] [] = .ok (.fz (.bool (allB t z_1 8))) [] := by
  rw [r_is_name]
  simp [fnR, mergeA, d_is_name, all_of_str k t _ _ ht, fin_rt]
theorem is_tag_other (k : Nat) (d : D) (hd : isD d "str" = false) : runX mo (k + 2) "is_tag" [d] [] = .ok (.fz (.bool false)) [] := by
  rw [r_is_tag]
  simp [fnR, mergeA, d_is_tag, all_of_other k d _ _ hd, fin_rt]
theorem is_word_other (k : Nat) (d : D) (hd : isD d "str" = false) : runX mo (k + 2) "is_word" [d] [] = .ok (.fz (.bool false)) [] := by
  rw [r_is_word]
  simp [fnR, mergeA, d_is_word, all_of_other k d _ _ hd, fin_rt]
theorem is_name_other (k : Nat) (d : D) (hd : isD d "str" = false) : runX mo (k + 2) "is_name" [d] [] = .ok (.fz (.bool false)) [] := by
  rw [r_is_name]
  simp [fnR, mergeA, d_is_name, all_of_other k d _ _ hd, fin_rt]
def cellAt (ns : List Int) (n : Nat) : Int := ns.getD n 0
theorem cell_at (k : Nat) (ns : List Int) (n : Nat) : runX mo (k + 1) "_law_cell_at" [.list (ns.map .int), .int (n : Int)] [] = .ok (.fz (.int (cellAt ns n))) [] := by
  rw [r_l_cell_at]
  unfold cellAt
  by_cases h : n < ns.length
  · have e : atI (ns.map PyData.int) (n : Int) = some (.int (ns[n])) := atI_nat' (by simp [h])
    simp [fnR, mergeA, d_l_cell_at, k_l_cell_at_1, h, ix_list' e, fin_rt]
  · simp [fnR, mergeA, d_l_cell_at, k_l_cell_at_1, h, fin_rt]
def mixZ (a b : Int) : Int := ((a % 2147483647) * 48271 + b * 7919 + 11) % 2147483647
theorem mix_int (k : Nat) (a b : Int) : runX mo (k + 1) "_law_mix" [.int a, .int b] [] = .ok (.fz (.int (mixZ a b))) [] := by
  rw [r_l_mix]
  simp [fnR, mergeA, d_l_mix, oMod_int, oMul_r (j := 48271) (by decide), oMul_r (j := 7919) (by decide), fin_rt, mixZ]
theorem small_ok (k : Nat) : runX mo (k + 1) "_law_small" [] [] = .ok (.fz (.str z_0)) [] := by
  rw [r_l_small]
  simp [fnR, mergeA, d_l_small]
theorem great_ok (k : Nat) : runX mo (k + 1) "_law_great" [] [] = .ok (.fz (.str z_1)) [] := by
  rw [r_l_great]
  simp [fnR, mergeA, d_l_great]
theorem any_ok (k : Nat) : ∃ t : Str, runX mo (k + 2) "_law_any" [] [] = .ok (.fz (.str t)) [] ∧ t.length = 95 := by
  rw [r_l_any]
  have h1 : z_0.length + z_1.length ≤ sizeLine := by simp; decide
  have h2 : (z_0 ++ z_1).length + z_2.length ≤ sizeLine := by simp [app_len]; decide
  refine ⟨z_0 ++ z_1 ++ z_2, ?_, by simp [app_len]⟩
  simp [fnR, mergeA, d_l_any, small_ok, great_ok, oAdd_str h1, oAdd_str h2]
/-- the text: as long as was asked -/
theorem text_step (k : Nat) (ns : List Int) (s t : Str) (m : O) (a : Int) (j : Nat) (hs : 1 ≤ s.length) (hs2 : s.length ≤ 1000) (ht : t.length ≤ 1000) : ∃ (c : Nat) (b : Int),
    Wss (gm mo (runX mo (k + 1))) (k + 1) b_l_text_of_1 [some (.fz (.list (ns.map .int))), some (.fz (.str s)), some m, some (.fz (.str t)), some (.fz (.int a)), some (.fz (.int (j : Int)))]
      = .nx [some (.fz (.list (ns.map .int))), some (.fz (.str s)), some m, some (.fz (.str (t ++ sgn c))), some (.fz (.int b)), some (.fz (.int (j : Int)))] := by
  have hz : s.length ≤ sizeLine := size_ok (by omega)
  have e1 : runX mo (k + 1) "_law_cell_at" [.list (ns.map .int), .int (4 + (j : Int))] [] = .ok (.fz (.int (cellAt ns (4 + j)))) [] := by
    have := cell_at k ns (4 + j)
    simpa using this
  have hp : (0 : Int) < (s.length : Int) := by omega
  obtain ⟨c, h1, h2⟩ := atI_in (xs := cs s) (i := mixZ (a + cellAt ns (4 + j)) j % (s.length : Int)) (Int.emod_nonneg _ (by omega)) (by rw [← len_cs]; exact Int.emod_lt_of_pos _ hp)
  refine ⟨c, mixZ (a + cellAt ns (4 + j)) j, ?_⟩
  have hadd : t.length + (sgn c).length ≤ sizeLine := size_ok (by simp; omega)
  simp [b_l_text_of_1, e1, mix_int, oLen_str hz, oMod_int hp, ix_str' h1 hz, oAdd_str hadd]
theorem text_loop (k : Nat) (ns : List Int) (s : Str) (m : O) (hs : 1 ≤ s.length) (hs2 : s.length ≤ 1000) : ∀ (n j : Nat) (t : Str) (a : Int) (x : Option O), t.length + n ≤ 1000 → ∃ (t' : Str) (b : Int) (y : Option O), t'.length = t.length + n ∧
    forL (.one 5) (Wss (gm mo (runX mo (k + 1))) (k + 1) b_l_text_of_1) (rngD (j : Int) n) [some (.fz (.list (ns.map .int))), some (.fz (.str s)), some m, some (.fz (.str t)), some (.fz (.int a)), x]
      = .nx [some (.fz (.list (ns.map .int))), some (.fz (.str s)), some m, some (.fz (.str t')), some (.fz (.int b)), y]
  | 0, j, t, a, x, _ => ⟨t, a, x, rfl, rfl⟩
  | n + 1, j, t, a, x, h => by
    obtain ⟨c, b, e⟩ := text_step k ns s t m a j hs hs2 (by omega)
    obtain ⟨t', b', y, h1, h2⟩ := text_loop k ns s m hs hs2 n (j + 1) (t ++ sgn c) b (some (.fz (.int (j : Int)))) (by rw [app_len]; simp; omega)
    refine ⟨t', b', y, by rw [h1, app_len]; simp; omega, ?_⟩
    rw [rngD_succ, xr_one (by simp)]
    simp only [List.set_cons_succ, List.set_cons_zero, e]
    exact h2
theorem text_of (k : Nat) (ns : List Int) (s : Str) (n : Nat) (hs : 1 ≤ s.length) (hs2 : s.length ≤ 1000) (hn : n ≤ 900) : ∃ t : Str, t.length = n ∧ runX mo (k + 2) "_law_text_of" [.list (ns.map .int), .str s, .int (n : Int)] [] = .ok (.fz (.str t)) [] := by
  obtain ⟨t, b, y, h1, h2⟩ := text_loop k ns s (.fz (.int n)) hs hs2 n 0 "" 7 none (by rw [emp_len]; omega)
  refine ⟨t, by rw [h1, emp_len]; omega, ?_⟩
  rw [r_l_text_of]
  have hr : oRng [.fz (.int (n : Int))] = .ok (rngD 0 n) := by rw [rng1 (in62_of (by omega) (by omega))]; simp
  have h3 : forL (.one 5) (Wss (gm mo (runX mo (k + 1))) (k + 1) b_l_text_of_1) (rngD 0 n) [some (.fz (.list (ns.map .int))), some (.fz (.str s)), some (.fz (.int n)), some (.fz (.str "")), some (.fz (.int 7)), none]
      = .nx [some (.fz (.list (ns.map .int))), some (.fz (.str s)), some (.fz (.int n)), some (.fz (.str t)), some (.fz (.int b)), y] := h2
  clear h2
  generalize runX mo (k + 1) = r at h3 ⊢
  simp [fnR, mergeA, d_l_text_of, k_l_text_of_1, hr, h3, sRetV, fin_rt]
def others : List D := [.none, .bool true, .bool false, .int 0, .int 1, .int (-7), .list [], .list [.str "a"], .tuple [.str "a"], .list [.str "A", .str "B"], .tuple [], .tuple [.str "Q", .str "R"]]
theorem other_ok (k : Nat) (i : Int) : ∃ d : D, runX mo (k + 1) "_law_other" [.int i] [] = .ok (.fz d) [] ∧ isD d "str" = false := by
  rw [r_l_other]
  obtain ⟨d, h1, h2⟩ := atI_in (xs := others) (i := i % 12) (Int.emod_nonneg _ (by decide)) (Int.emod_lt_of_pos _ (by decide))
  have hd : ∀ d ∈ others, isD d "str" = false := by simp [others]
  unfold others at h1
  refine ⟨d, ?_, hd d (List.mem_of_getElem? h2)⟩
  simp [fnR, mergeA, d_l_other, oMod_int, givR, oTup, ix_list' h1, fin_rt]
theorem due_ok (k : Nat) (t s : Str) (m : Int) (ht : t.length ≤ 1000) : runX mo (k + 1) "_law_due" [.str t, .str s, .int m] [] = .ok (.fz (.bool (allB t s m))) [] := by
  have hz : t.length ≤ sizeLine := size_ok (by omega)
  rw [r_l_due]
  have hl : ∀ (l : List Nat), lcL (.one 3) (Wc (gm mo (runX mo k)) k .no) (nw (pth x_l_due_1) (We (gm mo (runX mo k)) k x_l_due_1)) [some (.fz (.str t)), some (.fz (.str s)), some (.fz (.int m)), none] (l.map fun c => .str (sgn c))
      = .ok (l.map fun c => O.fz (PyData.bool (inS s c))) := by
    intro l
    induction l with
    | nil => rfl
    | cons c l ih =>
      rw [List.map_cons]
      simp only [lcL, setT]
      simp [nw, x_l_due_1] at ih ⊢
      rw [ih]
      simp [inS]
  have hb : ∀ l : List Nat, bools? (l.map fun c => PyData.bool (inS s c)) = some (l.map (inS s)) := by
    intro l
    have := bools?_map (l.map (inS s))
    rwa [List.map_map] at this
  have h4 := hl (cs t)
  have h5 : (cs t).length < sizeLine := by
    rw [← len_cs]
    have : sizeLine = 16777216 := by decide
    omega
  unfold allB
  by_cases h1 : (t.length : Int) < 1
  · simp [fnR, mergeA, d_l_due, k_l_due_1, oLen_str hz, h1, fin_rt]
    intro h; omega
  · by_cases h2 : m < (t.length : Int)
    · simp [fnR, mergeA, d_l_due, k_l_due_1, oLen_str hz, h1, h2, fin_rt]
      intro _ h; omega
    · simp [fnR, mergeA, d_l_due, k_l_due_1, oLen_str hz, h1, h2, wipeR, h4, h5, oAll, O.lst?, hb, fin_rt]
      omega
theorem fin3 {α : Type} {A B : α} {b c : Bool} (h : b = c) : (match !(b == c) with | true => A | false => B) = B := by subst h; simp
theorem answers_ok (k : Nat) (d : D) (b1 b2 b3 : Bool) (h1 : runX mo (k + 2) "is_tag" [d] [] = .ok (.fz (.bool b1)) []) (h2 : runX mo (k + 2) "is_word" [d] [] = .ok (.fz (.bool b2)) []) (h3 : runX mo (k + 2) "is_name" [d] [] = .ok (.fz (.bool b3)) []) :
    runX mo (k + 3) "_law_answers" [d, .list [.bool b1, .bool b2, .bool b3]] [] = .ok (.fz (.bool true)) [] := by
  rw [r_l_answers]
  have hr : oRng [.fz (.int 3)] = .ok [.int 0, .int 1, .int 2] := by rw [rng1 (by decide)]; rfl
  have a0 : atI [PyData.bool b1, .bool b2, .bool b3] 0 = some (.bool b1) := rfl
  have a1 : atI [PyData.bool b1, .bool b2, .bool b3] 1 = some (.bool b2) := rfl
  have a2 : atI [PyData.bool b1, .bool b2, .bool b3] 2 = some (.bool b3) := rfl
  simp [fnR, mergeA, d_l_answers, k_l_answers_1, h1, h2, h3, givR, hr, xr_one, b_l_answers_1, ix_list' a0, ix_list' a1, ix_list' a2, fin_rt]
theorem z34 : z_0 ++ z_3 = z_4 := by decide +kernel
/-- behind the text's making -/
theorem tail2 (ns : List Int) (t : Str) (m x1 x2 x5 : Option O) (ht : t.length ≤ 1000) :
    ((Wss (gm mo (runX mo 39)) 39 k_law_2 [some (.fz (.list (ns.map .int))), x1, x2, m, some (.fz (.str t)), x5, none]).fin [false]).z = .ok (.fz (.bool true)) := by
  have sm : runX mo 39 "_law_small" [] [] = .ok (.fz (.str z_0)) [] := small_ok 38
  have gr : runX mo 39 "_law_great" [] [] = .ok (.fz (.str z_1)) [] := great_ok 38
  have c0 : runX mo 39 "_law_cell_at" [.list (ns.map .int), .int 0] [] = .ok (.fz (.int (cellAt ns 0))) [] := cell_at 38 ns 0
  have ad : oAdd (.fz (.str z_0)) (.fz (.str z_3)) = .ok (.fz (.str z_4)) := by rw [oAdd_str (by simp; decide), z34]
  have hz : t.length ≤ sizeLine := size_ok (by omega)
  have d1 := due_ok 38 t z_0 8 ht
  have d2 := due_ok 38 t z_4 60 ht
  have d3 := due_ok 38 t z_1 8 ht
  obtain ⟨d, e1, e2⟩ := other_ok 38 (cellAt ns 0 / 4)
  have e1' : runX mo 39 "_law_other" [.int (cellAt ns 0 / 4)] [] = .ok (.fz d) [] := e1
  have f1 : runX mo 39 "_law_answers" [d, .list [.bool false, .bool false, .bool false]] [] = .ok (.fz (.bool true)) [] := answers_ok 36 d false false false (is_tag_other 36 d e2) (is_word_other 36 d e2) (is_name_other 36 d e2)
  have f2 : runX mo 39 "_law_answers" [.str t, .list [.bool (allB t z_0 8), .bool (allB t z_4 60), .bool (allB t z_1 8)]] [] = .ok (.fz (.bool true)) [] := answers_ok 36 (.str t) _ _ _ (is_tag_str 36 t hz) (is_word_str 36 t hz) (is_name_str 36 t hz)
  have sz : (2 : Nat) < sizeLine := by decide
  generalize runX mo 39 = R at sm gr c0 d1 d2 d3 e1' f1 f2 ⊢
  simp [k_law_2, sm, gr, ad, d1, d2, d3, c0, e1', f1, givR, oDiv_int, paV, mApp, sz, k_law_1, f2, fin_rt]
theorem tail3 (ns : List Int) (s : Str) (m : Nat) (x1 : Option O) (hm : m ≤ 63) (hs1 : 1 ≤ s.length) (hs2 : s.length ≤ 1000) :
    ((Wss (gm mo (runX mo 39)) 39 k_law_3 [some (.fz (.list (ns.map .int))), x1, some (.fz (.str s)), some (.fz (.int (m : Int))), none, none, none]).fin [false]).z = .ok (.fz (.bool true)) := by
  obtain ⟨t, h1, h2⟩ := text_of 37 ns s m hs1 hs2 (by omega)
  have h2' : runX mo 39 "_law_text_of" [.list (ns.map .int), .str s, .int (m : Int)] [] = .ok (.fz (.str t)) [] := h2
  have c2 : runX mo 39 "_law_cell_at" [.list (ns.map .int), .int 2] [] = .ok (.fz (.int (cellAt ns 2))) [] := cell_at 38 ns 2
  have c3 : runX mo 39 "_law_cell_at" [.list (ns.map .int), .int 3] [] = .ok (.fz (.int (cellAt ns 3))) [] := cell_at 38 ns 3
  have fin := tail2 ns t (some (.fz (.int (m : Int)))) x1 (some (.fz (.str s))) none (by omega)
  by_cases b1 : cellAt ns 2 / 3 % 3 = 1
  · by_cases b2 : 0 < m
    · obtain ⟨ta, ea, la⟩ := any_ok 37
      have an : runX mo 39 "_law_any" [] [] = .ok (.fz (.str ta)) [] := ea
      have hta : ta.length ≤ sizeLine := size_ok (by omega)
      have hz : t.length ≤ sizeLine := size_ok (by omega)
      have m1 : runX mo 39 "_law_mix" [.int (cellAt ns 3), .int 1] [] = .ok (.fz (.int (mixZ (cellAt ns 3) 1))) [] := mix_int 38 _ _
      have m2 : runX mo 39 "_law_mix" [.int (cellAt ns 3), .int 2] [] = .ok (.fz (.int (mixZ (cellAt ns 3) 2))) [] := mix_int 38 _ _
      obtain ⟨c, a1, a2⟩ := atI_in (xs := cs ta) (i := mixZ (cellAt ns 3) 2 % 95) (Int.emod_nonneg _ (by decide)) (by rw [← len_cs, la]; exact Int.emod_lt_of_pos _ (by decide))
      generalize hat : mixZ (cellAt ns 3) 1 % (m : Int) = at_
      have k1 := cut_le t none (some at_)
      have k2 := cut_le t (some (at_ + 1)) none
      have fin2 := tail2 ns (cutS t none (some at_) ++ sgn c ++ cutS t (some (at_ + 1)) none) (some (.fz (.int (m : Int)))) x1 (some (.fz (.str s))) (some (.fz (.int at_))) (by simp [app_len]; omega)
      have o1 : oAdd (.fz (.str (cutS t none (some at_)))) (.fz (.str (sgn c))) = .ok (.fz (.str (cutS t none (some at_) ++ sgn c))) := oAdd_str (size_ok (by simp; omega))
      have o2 : oAdd (.fz (.str (cutS t none (some at_) ++ sgn c))) (.fz (.str (cutS t (some (at_ + 1)) none))) = .ok (.fz (.str (cutS t none (some at_) ++ sgn c ++ cutS t (some (at_ + 1)) none))) := oAdd_str (size_ok (by simp [app_len]; omega))
      have sl1 : ∀ l u, oSl (.fz (.str t)) l u = .ok (.fz (.str (cutS t l u))) := fun l u => by simp [oSl, hz]
      generalize runX mo 39 = R at h2' c2 c3 an m1 m2 fin fin2 ⊢
      simp [k_law_3, h2', c2, c3, oDiv_int, oMod_int, b1, b2, m1, m2, hat, an, oLen_str hta, la, ix_str' a1 hta, oPart, sl1, o1, o2, fin2]
    · generalize runX mo 39 = R at h2' c2 c3 fin ⊢
      simp [k_law_3, h2', c2, c3, oDiv_int, oMod_int, b1, b2, fin]
  · generalize runX mo 39 = R at h2' c2 c3 fin ⊢
    simp [k_law_3, h2', c2, c3, oDiv_int, oMod_int, b1, fin]
theorem law_true (ns : List Int) (h : ns.length ≤ 63) : (runM mo 40 "law" [.list (ns.map .int)] []).z = .ok (.fz (.bool true)) := by
  rw [← runX_eq, r_law]
  obtain ⟨ta, ea, la⟩ := any_ok 37
  have sm : runX mo 39 "_law_small" [] [] = .ok (.fz (.str z_0)) [] := small_ok 38
  have gr : runX mo 39 "_law_great" [] [] = .ok (.fz (.str z_1)) [] := great_ok 38
  have an : runX mo 39 "_law_any" [] [] = .ok (.fz (.str ta)) [] := ea
  have c0 : runX mo 39 "_law_cell_at" [.list (ns.map .int), .int 0] [] = .ok (.fz (.int (cellAt ns 0))) [] := cell_at 38 ns 0
  have c1 : runX mo 39 "_law_cell_at" [.list (ns.map .int), .int 1] [] = .ok (.fz (.int (cellAt ns 1))) [] := cell_at 38 ns 1
  have c2 : runX mo 39 "_law_cell_at" [.list (ns.map .int), .int 2] [] = .ok (.fz (.int (cellAt ns 2))) [] := cell_at 38 ns 2
  have ad : oAdd (.fz (.str z_0)) (.fz (.str z_3)) = .ok (.fz (.str z_4)) := by rw [oAdd_str (by simp; decide), z34]
  obtain ⟨s, hs1, hs2⟩ := atI_in (xs := [z_0, z_1, z_4, ta]) (i := cellAt ns 0 % 4) (Int.emod_nonneg _ (by decide)) (Int.emod_lt_of_pos _ (by decide))
  have hs3 : 1 ≤ s.length ∧ s.length ≤ 1000 := by
    have hm := List.mem_of_getElem? hs2
    have : ∀ x ∈ [z_0, z_1, z_4, ta], 1 ≤ x.length ∧ x.length ≤ 1000 := by simp [la]
    exact this s hm
  have hs4 : atI [PyData.str z_0, .str z_1, .str z_4, .str ta] (cellAt ns 0 % 4) = some (.str s) := atI_map_some (f := PyData.str) hs1
  have fin : ∀ m : Int, 0 ≤ m → m ≤ 63 → ∀ x1, ((Wss (gm mo (runX mo 39)) 39 k_law_3 [some (.fz (.list (ns.map .int))), x1, some (.fz (.str s)), some (.fz (.int m)), none, none, none]).fin [false]).z = .ok (.fz (.bool true)) := by
    intro m h0 h1 x1
    obtain ⟨n, rfl⟩ := Int.eq_ofNat_of_zero_le h0
    exact tail3 ns s n x1 (by omega) hs3.1 hs3.2
  have f1 := fin (cellAt ns 1 % 12) (by omega) (by omega)
  have f2 := fin (56 + cellAt ns 1 / 12 % 8) (by omega) (by omega)
  clear fin
  generalize runX mo 39 = R at sm gr an c0 c1 c2 f1 f2 ⊢
  by_cases b : cellAt ns 2 % 3 = 1
  · simp [fnR, mergeA, d_law, sm, gr, an, ad, c0, c1, c2, givR, oTup, oMod_int, oDiv_int, ix_list' hs4, b, f2]
  · simp [fnR, mergeA, d_law, sm, gr, an, ad, c0, c1, c2, givR, oTup, oMod_int, oDiv_int, ix_list' hs4, b, f1]
end Law
namespace Law
open PySem PySem.Spec PyProof.Rows L2 Mw
def loose0 : List Str := ["SMALL", "GREAT", "WORD_SIGNS", "all_of", "is_tag", "is_word", "is_name", "_law_cell_at", "_law_mix", "_law_small", "_law_great", "_law_any", "_law_text_of", "_law_other", "_law_due", "_law_answers"]
def loose : List Str := loose0
abbrev R : PySem.W.OpenRow := PySem.W.OpenLaw.row PySem.Challenge.rw_warden_k01_heads_told
abbrev hk : PySem.W.Hook := He.hookD 4 mo.fa mo.fn
def ob (s : PySem.W.SharedT) : He.AlD := He.obsDG 4 mo.fa mo.fn (HandSHeadRun.getT s)
theorem ob_eq (s : PySem.W.SharedT) : ob s = hk.obs s.abs := He.obsDG_eq (HandSHeadRun.getT_eq s)
theorem run (w : World) : HandSHeadRun.RunEq R (PySem.W.view R.prog [18]) hk ob 4000 loose w := by
  intro os
  kernel_rfl
theorem facts {P : Program} {w : World} {K : PySem.W.Frag} {h : Heap} {mg : Str → Option Value} {f : Addr} (X : K.In h) (G : h.Ns mainGlobals mg) (hfa : mg ("law" : Str) = some (.ref f)) (c : He.SaysD mo.fa mo.fn K) :
    ∃ (fd : FuncData) (sp : Sp), (∀ (s : Shared) (v : Value), BindsTo s fd ⟨[v], []⟩ [("_law_script", v)]) ∧ (∀ (H : Hp) (a : Addr) (ns : List Int), ns.length ≤ 63 → Only H → SqL K H a (ns.map V.int) → sp [.ref a] H (fun v _ => v = .bl true) fun _ _ _ => False) ∧
      ∀ base : Heap, K.In base → base.Ns mainGlobals mg → FnOk P w K mg base (CXL P) 40 f fd ["_law_script"] sp :=
  law_facts (k := 40) (d := e_law) mo_ok mo_bind (by simp [mo]) rfl rfl law_true X G hfa c
end Law
open PySem PySem.W PySem.Calls PyProof.Rows
set_option maxRecDepth 100000 in
set_option maxHeartbeats 0 in
theorem PySem.Challenge.cw_warden_k01_heads_told_holds : PySem.Challenge.rw_warden_k01_heads_told.Holds := by
  w_on; o_law
  refine HandSHeadRun.head_any (r := OpenLaw.row PySem.Challenge.rw_warden_k01_heads_told) (q := view (OpenLaw.row PySem.Challenge.rw_warden_k01_heads_told).prog [18]) (H := Law.hk) (ob := Law.ob) (M := 4000) (loose := Law.loose) (d := HandSHeadRun.topDef (OpenLaw.row PySem.Challenge.rw_warden_k01_heads_told).prog 18) (kwd := []) Law.ob_eq
    (by kernel_rfl) (fun s => by kernel_rfl) Law.run (by kernel_rfl) (by kernel_rfl) (by kernel_rfl) (by rfl) (by first | assumption | decide +kernel) (by decide +kernel) ⟨rfl, rfl, rfl, rfl, rfl, by decide +kernel⟩ ?hw ?hc
  case hw => w_witness2
  case hc =>
    refine L2.walk_ofE (l := PySem.Challenge.rw_warden_k01_heads_told) (n := 63) (k := 40) (x := "_law_script") (CX := Mw.CXL PySem.Challenge.rw_warden_k01_heads_told.prog) rfl (by decide) (by kernel_rfl) ⟨rfl, by decide, by decide⟩ ?F (fun _ _ _ _ z => Mw.cxl_no z)
    intro w mg fa h Y G hmg0
    obtain ⟨K, KX, c⟩ := Y
    have hmg : mg ("law" : PySem.Str) = some (.ref fa) := by
      have e : (HandSHeadRun.topDef (OpenLaw.row PySem.Challenge.rw_warden_k01_heads_told).prog 18).name = ("law" : PySem.Str) := by kernel_rfl
      rw [← e]
      exact hmg0
    obtain ⟨fd, sp, hb, hs, hF⟩ := Law.facts (P := (PySem.Challenge.rw_warden_k01_heads_told).prog) (w := w) KX G hmg c
    exact ⟨K, fd, sp, KX, hb, hs, hF⟩
