import PyProof.Rows.All
import Wide.All
import OpenK.AllK
import Wide.FinOn
import HandS.ForMost
import HandS.IsInst
import HandS.Wide
import HandS.TupAny
import HandS.WideBits
import HandS.Flow
import PyProof.NeKinds
import HandS.EndBits
import HandS.Style
import HandS.RaiseMore
import PyProof.ReprRoads
import HandS.Conv
import KE.KUnpackStar
import HandS.TupMul
import KE.KIntText
import PySem.Challenge.RW_wiretongue_k67_things_there_and_back
set_option Elab.async false
set_option linter.all false
set_option autoImplicit false
set_option maxRecDepth 100000
set_option maxHeartbeats 4000000
/-! DL: readings at the level of data. -/
namespace DL
open PySem PySem.Spec PyProof.Rows L2
abbrev D := PyData
/-- what is known of a slot: nothing, data (published), a list of its own (not shared), the handle -/
inductive EV where
  | un
  | d (x : D)
  | own (xs : List D)
  | hd
abbrev DEnv := List EV
/-- the deck: a dict with its cells (a list at c), seed, at -/
def deckKv (c : Addr) (seed ct : Int) : List (Key × V) := [(Sum.inr "cells", .ref c), (Sum.inr "seed", .int seed), (Sum.inr "at", .int ct)]
def bigM : Int := 170141183460469231731687303715884105727
/-- more draws than any law makes -/
@[irreducible] def ctMax : Nat := 2 ^ 100000
def deckInv (dk c : Addr) (B : Nat) (H : Hp) : Prop := dk ≠ c ∧ ∃ (cells : List Int) (seed ct : Int), H dk = some (.dK (deckKv c seed ct)) ∧ H c = some (.lst (cells.map V.int)) ∧ cells.length ≤ 63 ∧
  (∀ z ∈ cells, Builtin.Int.intBits z ≤ 1048576) ∧ 0 ≤ seed ∧ seed < bigM ∧ 0 ≤ ct ∧ ct + (B : Int) ≤ (ctMax : Int)
/-- the handle: none, or a deck by its two addresses -/
def Wd := Option (Addr × Addr)
def Wd.nil : Wd := none
def Wd.hv : Wd → V
  | none => .non
  | some (dk, _) => .ref dk
def Wd.mu : Wd → Addr → Prop
  | none, _ => False
  | some (dk, c), a => a = dk ∨ a = c
def Wd.inv : Wd → Nat → Hp → Prop
  | none, _, _ => True
  | some (dk, c), B, H => deckInv dk c B H
theorem Wd.loc : ∀ (W : Wd) (B : Nat) (H H' : Hp), (∀ a, W.mu a → H' a = H a) → W.inv B H → W.inv B H'
  | none, _, _, _, _, _ => trivial
  | some (dk, c), B, H, H', e, h => by
    obtain ⟨ne, cells, seed, ct, h1, h2, r⟩ := h
    exact ⟨ne, cells, seed, ct, (e dk (.inl rfl)).trans h1, (e c (.inr rfl)).trans h2, r⟩
theorem Wd.trk : ∀ (W : Wd) (B : Nat) (H : Hp) (a : Addr), W.inv B H → W.mu a → ∃ o, H a = some o
  | none, _, _, _, _, m => m.elim
  | some (dk, c), B, H, a, h, m => by
    obtain ⟨ne, cells, seed, ct, h1, h2, r⟩ := h
    rcases m with rfl | rfl
    · exact ⟨_, h1⟩
    · exact ⟨_, h2⟩
theorem Wd.low : ∀ (W : Wd) (B B' : Nat) (H : Hp), B' ≤ B → W.inv B H → W.inv B' H
  | none, _, _, _, _, _ => trivial
  | some (dk, c), B, B', H, l, h => by
    obtain ⟨ne, cells, seed, ct, h1, h2, h3, h4, h5, h6, h7, h8⟩ := h
    exact ⟨ne, cells, seed, ct, h1, h2, h3, h4, h5, h6, h7, by omega⟩
/-- a key as data -/
def keyD : Key → D
  | .inl i => .int i
  | .inr z => .str z
mutual
/-- a value is data: lists and dicts are tracked ones, tuples may stand in the written part -/
inductive Dr (K : PySem.W.Frag) (G : Hp) : V → D → Prop
  | non : Dr K G .non .none
  | bl (b : Bool) : Dr K G (.bl b) (.bool b)
  | int (i : Int) : Dr K G (.int i) (.int i)
  | str (x : Str) : Dr K G (.str x) (.str x)
  | lst {a : Addr} {xs : List V} {ds : List D} : G a = some (.lst xs) → DrAll K G xs ds → Dr K G (.ref a) (.list ds)
  | tup {a : Addr} {xs : List V} {ds : List D} : SqT K G a xs → DrAll K G xs ds → Dr K G (.ref a) (.tuple ds)
  | dic {a : Addr} {kvs : List (Key × V)} {ds : List (D × D)} : G a = some (.dK kvs) → DrKv K G kvs ds → Dr K G (.ref a) (.dict ds)
inductive DrAll (K : PySem.W.Frag) (G : Hp) : List V → List D → Prop
  | nil : DrAll K G [] []
  | cons {v : V} {vs : List V} {d : D} {ds : List D} : Dr K G v d → DrAll K G vs ds → DrAll K G (v :: vs) (d :: ds)
inductive DrKv (K : PySem.W.Frag) (G : Hp) : List (Key × V) → List (D × D) → Prop
  | nil : DrKv K G [] []
  | cons {k : Key} {v : V} {vs : List (Key × V)} {d : D} {ds : List (D × D)} : Dr K G v d → DrKv K G vs ds → DrKv K G ((k, v) :: vs) ((keyD k, d) :: ds)
end
section
variable {K : PySem.W.Frag}
theorem same_sqT {H H' : Hp} {a : Addr} {xs : List V} (e : Same H H') (h : SqT K H a xs) : SqT K H' a xs := by
  rcases h with (h | ⟨o, h⟩) | h
  · exact .inl (.inl (e _ _ h))
  · exact .inl (.inr ⟨o, e _ _ h⟩)
  · exact .inr h
mutual
theorem dp_same {G G' : Hp} (e : Same G G') : ∀ {v : V} {x : D}, Dr K G v x → Dr K G' v x
  | _, _, .non => .non
  | _, _, .bl b => .bl b
  | _, _, .int i => .int i
  | _, _, .str z => .str z
  | _, _, .lst h a => .lst (e _ _ h) (dpAll_same e a)
  | _, _, .tup h a => .tup (same_sqT e h) (dpAll_same e a)
  | _, _, .dic h a => .dic (e _ _ h) (dpKv_same e a)
theorem dpAll_same {G G' : Hp} (e : Same G G') : ∀ {vs : List V} {xs : List D}, DrAll K G vs xs → DrAll K G' vs xs
  | _, _, .nil => .nil
  | _, _, .cons h t => .cons (dp_same e h) (dpAll_same e t)
theorem dpKv_same {G G' : Hp} (e : Same G G') : ∀ {vs : List (Key × V)} {xs : List (D × D)}, DrKv K G vs xs → DrKv K G' vs xs
  | _, _, .nil => .nil
  | _, _, .cons h t => .cons (dp_same e h) (dpKv_same e t)
end
theorem dpAll_len {G : Hp} : ∀ {vs : List V} {xs : List D}, DrAll K G vs xs → vs.length = xs.length
  | _, _, .nil => rfl
  | _, _, .cons _ t => congrArg (· + 1) (dpAll_len t)
theorem dpAll_app {G : Hp} : ∀ {vs us : List V} {xs ys : List D}, DrAll K G vs xs → DrAll K G us ys → DrAll K G (vs ++ us) (xs ++ ys)
  | _, _, _, _, .nil, h => h
  | _, _, _, _, .cons a t, h => .cons a (dpAll_app t h)
theorem dpAll_one {G : Hp} {v : V} {x : D} (h : Dr K G v x) : DrAll K G [v] [x] := .cons h .nil
theorem dpAll_get {G : Hp} : ∀ {vs : List V} {xs : List D} {i : Nat} {x : D}, DrAll K G vs xs → xs[i]? = some x → ∃ v, vs[i]? = some v ∧ Dr K G v x
  | _, _, 0, _, .cons a _, h => by
    cases h
    exact ⟨_, rfl, a⟩
  | _, _, i + 1, _, .cons _ t, h => by
    obtain ⟨v, e, q⟩ := dpAll_get (i := i) t h
    exact ⟨v, e, q⟩
theorem dpAll_getV {G : Hp} : ∀ {vs : List V} {xs : List D} {i : Nat} {v : V}, DrAll K G vs xs → vs[i]? = some v → ∃ x, xs[i]? = some x ∧ Dr K G v x
  | _, _, 0, _, .cons a _, h => by
    cases h
    exact ⟨_, rfl, a⟩
  | _, _, i + 1, _, .cons _ t, h => by
    obtain ⟨v, e, q⟩ := dpAll_getV (i := i) t h
    exact ⟨v, e, q⟩
theorem dpAll_take {G : Hp} : ∀ {vs : List V} {xs : List D} (n : Nat), DrAll K G vs xs → DrAll K G (vs.take n) (xs.take n)
  | _, _, 0, _ => .nil
  | _, _, _ + 1, .nil => .nil
  | _, _, n + 1, .cons a t => .cons a (dpAll_take n t)
theorem dpAll_drop {G : Hp} : ∀ {vs : List V} {xs : List D} (n : Nat), DrAll K G vs xs → DrAll K G (vs.drop n) (xs.drop n)
  | _, _, 0, h => h
  | _, _, _ + 1, .nil => .nil
  | _, _, n + 1, .cons _ t => dpAll_drop n t
theorem dpAll_set {G : Hp} {v : V} {x : D} (a : Dr K G v x) : ∀ {vs : List V} {xs : List D} (n : Nat), DrAll K G vs xs → DrAll K G (vs.set n v) (xs.set n x)
  | _, _, _, .nil => .nil
  | _, _, 0, .cons _ t => .cons a t
  | _, _, n + 1, .cons b t => .cons b (dpAll_set a n t)
theorem dpAll_rev {G : Hp} : ∀ {vs : List V} {xs : List D}, DrAll K G vs xs → DrAll K G vs.reverse xs.reverse
  | _, _, .nil => .nil
  | _, _, .cons a t => by
    rw [List.reverse_cons, List.reverse_cons]
    exact dpAll_app (dpAll_rev t) (dpAll_one a)
theorem dp_int {G : Hp} {v : V} {i : Int} (h : Dr K G v (.int i)) : v = .int i := by cases h; rfl
theorem dp_str {G : Hp} {v : V} {z : Str} (h : Dr K G v (.str z)) : v = .str z := by cases h; rfl
theorem dp_bl {G : Hp} {v : V} {b : Bool} (h : Dr K G v (.bool b)) : v = .bl b := by cases h; rfl
theorem dp_non {G : Hp} {v : V} (h : Dr K G v .none) : v = .non := by cases h; rfl
theorem dp_lst {G : Hp} {v : V} {xs : List D} (h : Dr K G v (.list xs)) : ∃ a vs, v = .ref a ∧ G a = some (.lst vs) ∧ DrAll K G vs xs := by
  cases h
  exact ⟨_, _, rfl, by assumption, by assumption⟩
theorem dp_tup {G : Hp} {v : V} {xs : List D} (h : Dr K G v (.tuple xs)) : ∃ a vs, v = .ref a ∧ SqT K G a vs ∧ DrAll K G vs xs := by
  cases h
  exact ⟨_, _, rfl, by assumption, by assumption⟩
theorem dp_dic {G : Hp} {v : V} {xs : List (D × D)} (h : Dr K G v (.dict xs)) : ∃ a vs, v = .ref a ∧ G a = some (.dK vs) ∧ DrKv K G vs xs := by
  cases h
  exact ⟨_, _, rfl, by assumption, by assumption⟩
mutual
def noDict : D → Bool
  | .dict _ => false
  | .list xs => noDicts xs
  | .tuple xs => noDicts xs
  | _ => true
def noDicts : List D → Bool
  | [] => true
  | x :: r => noDict x && noDicts r
end
mutual
theorem dr_dp {G : Hp} : ∀ {v : V} {x : D}, Dr K G v x → noDict x = true → Dp K G v x
  | _, _, .non, _ => .non
  | _, _, .bl b, _ => .bl b
  | _, _, .int i, _ => .int i
  | _, _, .str z, _ => .str z
  | _, _, .lst h a, n => .lst (SqL.of h) (drAll_dp a (by simpa [noDict] using n))
  | _, _, .tup h a, n => .tup h (drAll_dp a (by simpa [noDict] using n))
  | _, _, .dic h a, n => by simp [noDict] at n
theorem drAll_dp {G : Hp} : ∀ {vs : List V} {xs : List D}, DrAll K G vs xs → noDicts xs = true → DpAll K G vs xs
  | _, _, .nil, _ => .nil
  | _, _, .cons h t, n => by
    simp only [noDicts, Bool.and_eq_true] at n
    exact .cons (dr_dp h n.1) (drAll_dp t n.2)
end
/-- ints, texts, truths, None as values -/
def atomV : D → Option V
  | .none => some .non
  | .bool b => some (.bl b)
  | .int i => some (.int i)
  | .str z => some (.str z)
  | _ => none
theorem dp_atom {G : Hp} {x : D} {v : V} (h : atomV x = some v) : Dr K G v x := by
  cases x <;> simp [atomV] at h <;> subst h <;> constructor
theorem atom_dp {G : Hp} {x : D} {v u : V} (h : atomV x = some v) (q : Dr K G u x) : u = v := by
  cases x <;> simp [atomV] at h <;> subst h <;> cases q <;> rfl

/-! ### states -/
structure RW (W : Wd) (B : Nat) (G0 H0 G H : Hp) : Prop where
  g0 : Same G0 G
  pub : Same G H
  gm : ∀ a, W.mu a → G a = none
  inv : W.inv B H
  fr : ∀ a o, H0 a = some o → ¬ W.mu a → H a = some o
  pn : ∀ a o, G a = some o → G0 a = none → H0 a = none
def SlotOk (K : PySem.W.Frag) (W : Wd) (H0 G H : Hp) : EV → Option V → Prop
  | .un, _ => True
  | .d x, s => ∃ v, s = some v ∧ Dr K G v x
  | .own xs, s => ∃ l vs, s = some (.ref l) ∧ H l = some (.lst vs) ∧ G l = none ∧ H0 l = none ∧ ¬ W.mu l ∧ DrAll K G vs xs
  | .hd, s => s = some W.hv ∧ W ≠ Wd.nil
structure Rel (K : PySem.W.Frag) (W : Wd) (B : Nat) (G0 H0 G : Hp) (env : DEnv) (σ : L2.St) (H : Hp) : Prop extends RW W B G0 H0 G H where
  len : env.length = σ.length
  slot : ∀ (i : Nat) e s, env[i]? = some e → σ[i]? = some s → SlotOk K W H0 G H e s
  dis : ∀ (i j : Nat) xi xj l, i ≠ j → env[i]? = some (.own xi) → env[j]? = some (.own xj) → σ[i]? = some (some (.ref l)) → σ[j]? ≠ some (some (.ref l))
/-- a step that makes new objects alone, some of them published -/
structure Grow (G H G' H' : Hp) : Prop where
  eg : Same G G'
  eh : Same H H'
  pub : Same G' H'
  new : ∀ a o, G' a = some o → G a = none → H a = none
theorem Grow.refl {G H : Hp} (p : Same G H) : Grow G H G H := ⟨Same.refl _, Same.refl _, p, fun _ _ h h' => by rw [h] at h'; cases h'⟩
theorem Grow.trans {G H G1 H1 G2 H2 : Hp} (a : Grow G H G1 H1) (b : Grow G1 H1 G2 H2) : Grow G H G2 H2 :=
  ⟨a.eg.trans b.eg, a.eh.trans b.eh, b.pub, fun x o h h' => by
    cases e : G1 x with
    | none => exact a.eh.free (b.new x o h e)
    | some u => exact a.new x u e h'⟩
theorem same_upd {H : Hp} {p : Addr} {o : HO} (h : H p = none) : Same H (upd H p o) := fun b x e => by
  rw [upd_ne (ne_of_none e h)]
  exact e
/-- a new object, published -/
theorem Grow.new1 {G H : Hp} {p : Addr} {o : HO} (s : Same G H) (h : H p = none) : Grow G H (upd G p o) (upd H p o) :=
  ⟨same_upd (s.free h), same_upd h, fun a u e => by
    by_cases z : a = p
    · subst z
      rw [upd_same] at e ⊢
      exact e
    · rw [upd_ne z] at e ⊢
      exact s a u e, fun a u e e' => by
    by_cases z : a = p
    · subst z
      exact h
    · rw [upd_ne z, e'] at e
      cases e⟩
/-- a new object, not published -/
theorem Grow.hid {G H : Hp} {p : Addr} {o : HO} (s : Same G H) (h : H p = none) : Grow G H G (upd H p o) :=
  ⟨Same.refl _, same_upd h, s.trans (same_upd h), fun a u e e' => by rw [e'] at e; cases e⟩
theorem slot_grow {W : Wd} {H0 G H G' H' : Hp} (g : Grow G H G' H') : ∀ {e : EV} {s : Option V}, SlotOk K W H0 G H e s → SlotOk K W H0 G' H' e s
  | .un, _, _ => trivial
  | .d _, _, ⟨v, e, q⟩ => ⟨v, e, dp_same g.eg q⟩
  | .own xs, _, ⟨l, vs, e, h, n, h0, m, q⟩ => ⟨l, vs, e, g.eh _ _ h, (by
      cases z : G' l with
      | none => rfl
      | some o =>
        have := g.new l o z n
        rw [h] at this
        cases this), h0, m, dpAll_same g.eg q⟩
  | .hd, _, h => h
theorem RW.grow {W : Wd} {B : Nat} {G0 H0 G H G' H' : Hp} (r : RW W B G0 H0 G H) (g : Grow G H G' H') : RW W B G0 H0 G' H' where
  g0 := r.g0.trans g.eg
  pub := g.pub
  gm := fun a m => by
    cases z : G' a with
    | none => rfl
    | some o =>
      obtain ⟨u, e⟩ := W.trk B H a r.inv m
      have := g.new a o z (r.gm a m)
      rw [e] at this
      cases this
  inv := W.loc B H H' (fun a m => by
    obtain ⟨u, e⟩ := W.trk B H a r.inv m
    rw [e]
    exact g.eh _ _ e) r.inv
  fr := fun a o h m => g.eh _ _ (r.fr a o h m)
  pn := fun a o h h0 => by
    cases z : G a with
    | some u => exact r.pn a u z h0
    | none =>
      have hn := g.new a o h z
      cases y : H0 a with
      | none => rfl
      | some u =>
        by_cases m : W.mu a
        · obtain ⟨u2, e⟩ := W.trk B H a r.inv m
          rw [e] at hn
          cases hn
        · rw [r.fr a u y m] at hn
          cases hn
theorem Rel.grow {W : Wd} {B : Nat} {G0 H0 G H G' H' : Hp} {env : DEnv} {σ : L2.St} (r : Rel K W B G0 H0 G env σ H) (g : Grow G H G' H') : Rel K W B G0 H0 G' env σ H' :=
  { r.toRW.grow g with len := r.len, slot := fun i e s h1 h2 => slot_grow g (r.slot i e s h1 h2), dis := r.dis }
theorem RW.trans {W : Wd} {B B' : Nat} {G0 H0 G H G' H' : Hp} (r : RW W B G0 H0 G H) (q : RW W B' G H G' H') : RW W B' G0 H0 G' H' where
  g0 := r.g0.trans q.g0
  pub := q.pub
  gm := q.gm
  inv := q.inv
  fr := fun a o h m => q.fr a o (r.fr a o h m) m
  pn := fun a o h h0 => by
    cases z : G a with
    | some u => exact r.pn a u z h0
    | none =>
      have hn := q.pn a o h z
      cases y : H0 a with
      | none => rfl
      | some u =>
        by_cases m : W.mu a
        · have := q.gm a m
          rw [h] at this
          cases this
        · rw [r.fr a u y m] at hn
          cases hn
theorem Rel.after {W : Wd} {B B' : Nat} {G0 H0 G H G' H' : Hp} {env : DEnv} {σ : L2.St} (r : Rel K W B G0 H0 G env σ H) (q : RW W B' G H G' H') : Rel K W B' G0 H0 G' env σ H' :=
  { r.toRW.trans q with
    len := r.len
    dis := r.dis
    slot := fun i x s h1 h2 => by
      have h := r.slot i x s h1 h2
      cases x with
      | un => trivial
      | d x =>
        obtain ⟨v, e1, q1⟩ := h
        exact ⟨v, e1, dp_same q.g0 q1⟩
      | own xs =>
        obtain ⟨l, vs, e1, hl, n, h0, m, q1⟩ := h
        refine ⟨l, vs, e1, q.fr l _ hl m, ?_, h0, m, dpAll_same q.g0 q1⟩
        cases z : G' l with
        | none => rfl
        | some o =>
          have := q.pn l o z n
          rw [hl] at this
          cases this
      | hd => exact h }
theorem RW.le {W : Wd} {B B' : Nat} {G0 H0 G H : Hp} (r : RW W B G0 H0 G H) (h : B' ≤ B) : RW W B' G0 H0 G H := { r with inv := W.low B B' H h r.inv }
theorem Rel.le {W : Wd} {B B' : Nat} {G0 H0 G H : Hp} {env : DEnv} {σ : L2.St} (r : Rel K W B G0 H0 G env σ H) (h : B' ≤ B) : Rel K W B' G0 H0 G env σ H :=
  { r.toRW.le h with len := r.len, slot := r.slot, dis := r.dis }
theorem RW.self {W : Wd} {B : Nat} {G0 H0 G H : Hp} (r : RW W B G0 H0 G H) : RW W B G H G H :=
  ⟨Same.refl _, r.pub, r.gm, r.inv, fun _ _ h _ => h, fun a o h h' => by rw [h] at h'; cases h'⟩
/-- a slot gets data -/
theorem Rel.set_d {W : Wd} {B : Nat} {G0 H0 G H : Hp} {env : DEnv} {σ : L2.St} {i : Nat} {v : V} {x : D} (r : Rel K W B G0 H0 G env σ H) (h : Dr K G v x) : Rel K W B G0 H0 G (env.set i (.d x)) (σ.set i (some v)) H :=
  { r.toRW with
    len := by rw [List.length_set, List.length_set]; exact r.len
    slot := fun j e s h1 h2 => by
      by_cases z : i = j
      · subst z
        by_cases hl : i < env.length
        · rw [List.getElem?_set_self hl] at h1
          rw [List.getElem?_set_self (r.len ▸ hl)] at h2
          cases h1
          cases h2
          exact ⟨v, rfl, h⟩
        · rw [List.getElem?_eq_none (by rw [List.length_set]; omega)] at h1
          cases h1
      · rw [List.getElem?_set_ne z] at h1 h2
        exact r.slot j e s h1 h2
    dis := fun j k xi xj l ne h1 h2 h3 => by
      have z1 : i ≠ j := fun z => by
        subst z
        by_cases hl : i < env.length
        · rw [List.getElem?_set_self hl] at h1
          cases h1
        · rw [List.getElem?_eq_none (by rw [List.length_set]; omega)] at h1
          cases h1
      have z2 : i ≠ k := fun z => by
        subst z
        by_cases hl : i < env.length
        · rw [List.getElem?_set_self hl] at h2
          cases h2
        · rw [List.getElem?_eq_none (by rw [List.length_set]; omega)] at h2
          cases h2
      rw [List.getElem?_set_ne z1] at h1 h3
      rw [List.getElem?_set_ne z2] at h2 ⊢
      exact r.dis j k xi xj l ne h1 h2 h3 }
theorem Rel.get_d {W : Wd} {B : Nat} {G0 H0 G H : Hp} {env : DEnv} {σ : L2.St} {i : Nat} {x : D} (r : Rel K W B G0 H0 G env σ H) (h : env[i]? = some (.d x)) : ∃ v, σ[i]? = some (some v) ∧ Dr K G v x := by
  have hl : i < σ.length := by
    rw [← r.len]
    exact (List.getElem?_eq_some_iff.mp h).1
  obtain ⟨v, e, q⟩ := r.slot i _ _ h (List.getElem?_eq_getElem hl)
  exact ⟨v, by rw [List.getElem?_eq_getElem hl, e], q⟩
theorem Rel.get_hd {W : Wd} {B : Nat} {G0 H0 G H : Hp} {env : DEnv} {σ : L2.St} {i : Nat} (r : Rel K W B G0 H0 G env σ H) (h : env[i]? = some .hd) : σ[i]? = some (some W.hv) ∧ W ≠ Wd.nil := by
  have hl : i < σ.length := by
    rw [← r.len]
    exact (List.getElem?_eq_some_iff.mp h).1
  have e : σ[i] = some W.hv ∧ W ≠ Wd.nil := r.slot i _ _ h (List.getElem?_eq_getElem hl)
  exact ⟨by rw [List.getElem?_eq_getElem hl, e.1], e.2⟩
theorem Rel.get_own {W : Wd} {B : Nat} {G0 H0 G H : Hp} {env : DEnv} {σ : L2.St} {i : Nat} {xs : List D} (r : Rel K W B G0 H0 G env σ H) (h : env[i]? = some (.own xs)) :
    ∃ l vs, σ[i]? = some (some (.ref l)) ∧ H l = some (.lst vs) ∧ G l = none ∧ H0 l = none ∧ ¬ W.mu l ∧ DrAll K G vs xs := by
  have hl : i < σ.length := by
    rw [← r.len]
    exact (List.getElem?_eq_some_iff.mp h).1
  obtain ⟨l, vs, e, q⟩ := r.slot i _ _ h (List.getElem?_eq_getElem hl)
  exact ⟨l, vs, by rw [List.getElem?_eq_getElem hl, e], q⟩
/-- an own list is published -/
theorem Rel.publish {W : Wd} {B : Nat} {G0 H0 G H : Hp} {env : DEnv} {σ : L2.St} {i : Nat} {xs : List D} {l : Addr} {vs : List V} (r : Rel K W B G0 H0 G env σ H) (h : env[i]? = some (.own xs)) (hs : σ[i]? = some (some (.ref l))) (hl : H l = some (.lst vs)) (hg : G l = none) (h0 : H0 l = none) (hm : ¬ W.mu l) (hq : DrAll K G vs xs) :
    Rel K W B G0 H0 (upd G l (.lst vs)) (env.set i (.d (.list xs))) σ H ∧ Dr K (upd G l (.lst vs)) (.ref l) (.list xs) ∧ Same G (upd G l (.lst vs)) := by
  have eg : Same G (upd G l (.lst vs)) := same_upd hg
  have dq : Dr K (upd G l (.lst vs)) (.ref l) (.list xs) := .lst upd_same (dpAll_same eg hq)
  have hil : i < env.length := (List.getElem?_eq_some_iff.mp h).1
  refine ⟨{ g0 := r.g0.trans eg, pub := fun a u e => ?_, gm := fun a m => ?_, inv := r.inv, fr := r.fr, pn := fun a o e e0 => ?_, len := by rw [List.length_set]; exact r.len, slot := fun j e s h1 h2 => ?_, dis := fun j k xi xj l' ne h1 h2 h3 => ?_ }, dq, eg⟩
  · by_cases z : a = l
    · subst z
      rw [upd_same] at e
      cases e
      exact hl
    · rw [upd_ne z] at e
      exact r.pub a u e
  · by_cases z : a = l
    · subst z
      exact absurd m hm
    · rw [upd_ne z]
      exact r.gm a m
  · by_cases z : a = l
    · subst z
      exact h0
    · rw [upd_ne z] at e
      exact r.pn a o e e0
  · by_cases z : i = j
    · subst z
      rw [List.getElem?_set_self hil] at h1
      cases h1
      rw [hs] at h2
      cases h2
      exact ⟨_, rfl, dq⟩
    · rw [List.getElem?_set_ne z] at h1
      have q := r.slot j e s h1 h2
      cases e with
      | un => trivial
      | d x =>
        obtain ⟨v, e1, q1⟩ := q
        exact ⟨v, e1, dp_same eg q1⟩
      | own ys =>
        obtain ⟨l2, us, e1, hl2, n2, z0, m2, q1⟩ := q
        refine ⟨l2, us, e1, hl2, ?_, z0, m2, dpAll_same eg q1⟩
        have ne : l2 ≠ l := fun w => by
          subst w
          subst e1
          exact r.dis i j xs ys l2 z h h1 hs h2
        rw [upd_ne ne]
        exact n2
      | hd => exact q
  · have z1 : i ≠ j := fun z => by
      subst z
      rw [List.getElem?_set_self hil] at h1
      cases h1
    have z2 : i ≠ k := fun z => by
      subst z
      rw [List.getElem?_set_self hil] at h2
      cases h2
    rw [List.getElem?_set_ne z1] at h1
    rw [List.getElem?_set_ne z2] at h2
    exact r.dis j k xi xj l' ne h1 h2 h3
end
end DL
namespace DL
open PySem PySem.Spec PyProof.Rows L2
/-! ### readings of data -/
abbrev ME := DEnv → (D → DEnv → Prop) → Prop
abbrev MT := DEnv → (Bool → DEnv → Prop) → Prop
abbrev MA := DEnv → (List EV → DEnv → Prop) → Prop
abbrev MF := DEnv → (List D → DEnv → Prop) → Prop
def ArgOk (K : PySem.W.Frag) (W : Wd) (G : Hp) : EV → V → Prop
  | .d x, v => Dr K G v x
  | .hd, v => v = W.hv ∧ W ≠ Wd.nil
  | _, _ => False
inductive ArgsOk (K : PySem.W.Frag) (W : Wd) (G : Hp) : List V → List EV → Prop
  | nil : ArgsOk K W G [] []
  | cons {v : V} {vs : List V} {a : EV} {as : List EV} : ArgOk K W G a v → ArgsOk K W G vs as → ArgsOk K W G (v :: vs) (a :: as)
def tD (K : PySem.W.Frag) (n : Nat) (m : ME) : TE := fun σ H Q => ∃ (W : Wd) (B : Nat) (G0 H0 G : Hp) (env : DEnv) (P : D → DEnv → Prop), Rel K W (B + n) G0 H0 G env σ H ∧ m env P ∧
  ∀ x env' v G' H', P x env' → Same G G' → Rel K W B G0 H0 G' env' σ H' → Dr K G' v x → Q v H'
def tDT (K : PySem.W.Frag) (n : Nat) (m : MT) : TT := fun σ H Q => ∃ (W : Wd) (B : Nat) (G0 H0 G : Hp) (env : DEnv) (P : Bool → DEnv → Prop), Rel K W (B + n) G0 H0 G env σ H ∧ m env P ∧
  ∀ b env' G' H', P b env' → Same G G' → Rel K W B G0 H0 G' env' σ H' → Q b H'
/-- an argument list: the handle's letter W is handed on -/
def tA (K : PySem.W.Frag) (n : Nat) (m : MA) : TA := fun σ H Q => ∃ (W : Wd) (B : Nat) (G0 H0 G : Hp) (env : DEnv) (P : List EV → DEnv → Prop), Rel K W (B + n) G0 H0 G env σ H ∧ m env P ∧
  ∀ as env' vs G' H', P as env' → Same G G' → Rel K W B G0 H0 G' env' σ H' → ArgsOk K W G' vs as → Q vs H'
def FreshAt (K : PySem.W.Frag) (W : Wd) (H0 G : Hp) (env : DEnv) (σ : L2.St) (H : Hp) (p : Addr) (xs : List D) : Prop :=
  ∃ vs, H p = some (.lst vs) ∧ G p = none ∧ H0 p = none ∧ ¬ W.mu p ∧ (∀ (i : Nat) l ys, env[i]? = some (.own ys) → σ[i]? = some (some (.ref l)) → l ≠ p) ∧ DrAll K G vs xs
def tF (K : PySem.W.Frag) (n : Nat) (m : MF) : TE := fun σ H Q => ∃ (W : Wd) (B : Nat) (G0 H0 G : Hp) (env : DEnv) (P : List D → DEnv → Prop), Rel K W (B + n) G0 H0 G env σ H ∧ m env P ∧
  ∀ xs env' p G' H', P xs env' → Same G G' → Rel K W B G0 H0 G' env' σ H' → FreshAt K W H0 G' env' σ H' p xs → Q (.ref p) H'
abbrev GE (X : Cx) (e : Expr) (n : Nat) (m : ME) : Prop := PE X e (tD X.K n m)
abbrev GT (X : Cx) (e : Expr) (n : Nat) (m : MT) : Prop := PT X e (tDT X.K n m)
abbrev GW (X : Cx) (e : Expr) (n : Nat) (m : MT) : Prop := PW X e (tDT X.K n m)
abbrev GA (X : Cx) (es : List Expr) (n : Nat) (m : MA) : Prop := PA X es (tA X.K n m)
abbrev GF (X : Cx) (e : Expr) (n : Nat) (m : MF) : Prop := PE X e (tF X.K n m)
theorem pe_imp {X : Cx} {e : Expr} {t t' : TE} (h : PE X e t) (q : ∀ σ H Q, t' σ H Q → t σ H Q) : PE X e t' := ⟨fun pins s σ H Q I z => h.run pins s σ H Q I (q σ H Q z)⟩
theorem pt_imp {X : Cx} {e : Expr} {t t' : TT} (h : PT X e t) (q : ∀ σ H Q, t' σ H Q → t σ H Q) : PT X e t' := ⟨fun pins s σ H Q I z => h.run pins s σ H Q I (q σ H Q z)⟩
theorem pw_imp {X : Cx} {e : Expr} {t t' : TT} (h : PW X e t) (q : ∀ σ H Q, t' σ H Q → t σ H Q) : PW X e t' := ⟨fun w pins s σ H Q I z => h.run w pins s σ H Q I (q σ H Q z)⟩
theorem pa_imp {X : Cx} {es : List Expr} {t t' : TA} (h : PA X es t) (q : ∀ σ H Q, t' σ H Q → t σ H Q) : PA X es t' := ⟨fun p pins s σ H Q I z => h.run p pins s σ H Q I (q σ H Q z)⟩
theorem ps_imp {X : Cx} {st : Stmt} {t t' : TS} (h : PS X st t) (q : ∀ D σ H, t' D σ H → t D σ H) : PS X st t' := ⟨fun pins s σ H D I z => h.run pins s σ H D I (q D σ H z)⟩
theorem pss_imp {X : Cx} {st : List Stmt} {t t' : TS} (h : PSs X st t) (q : ∀ D σ H, t' D σ H → t D σ H) : PSs X st t' := ⟨fun pins s σ H D I z => h.run pins s σ H D I (q D σ H z)⟩
/-! ### the data-level words -/
def mVar (i : Nat) : ME := fun env P => match env[i]? with
  | some (.d x) => P x env
  | some (.own xs) => P (.list xs) (env.set i (.d (.list xs)))
  | _ => False
def mC (x : D) : ME := fun env P => P x env
def mOp (f : D → D → (D → Prop) → Prop) (ma mb : ME) : ME := fun env P => ma env fun x e1 => mb e1 fun y e2 => f x y fun z => P z e2
def mUn (f : D → (D → Prop) → Prop) (ma : ME) : ME := fun env P => ma env fun x e1 => f x fun z => P z e1
def mCmp (f : D → D → (Bool → Prop) → Prop) (ma mb : ME) : ME := fun env P => ma env fun x e1 => mb e1 fun y e2 => f x y fun b => P (.bool b) e2
def mCmpT (f : D → D → (Bool → Prop) → Prop) (ma mb : ME) : MT := fun env P => ma env fun x e1 => mb e1 fun y e2 => f x y fun b => P b e2
def mChain (f g : D → D → (Bool → Prop) → Prop) (ma mb mc : ME) : ME := fun env P => ma env fun x e1 => mb e1 fun y e2 => f x y fun b => match b with
  | true => mc e2 fun z e3 => g y z fun c => P (.bool c) e3
  | false => P (.bool false) e2
def mChainT (f g : D → D → (Bool → Prop) → Prop) (ma mb mc : ME) : MT := fun env P => ma env fun x e1 => mb e1 fun y e2 => f x y fun b => match b with
  | true => mc e2 fun z e3 => g y z fun c => P c e3
  | false => P false e2
/-- a value that is a truth, as a test -/
def mTest (ma : ME) : MT := fun env P => ma env fun x e1 => match x with
  | .bool b => P b e1
  | _ => False
def truD : D → (Bool → Prop) → Prop
  | .none, P => P false
  | .bool b, P => P b
  | .int i, P => P (i != 0)
  | .str z, P => z.length ≤ sizeLine ∧ P ((z.length : Int) != 0)
  | .list xs, P => P (!xs.isEmpty)
  | .tuple xs, P => P (!xs.isEmpty)
  | .dict _, _ => False
def mTru (ma : ME) : MT := fun env P => ma env fun x e1 => truD x fun b => P b e1
def mAndT (a b : MT) : MT := fun env P => a env fun k e1 => match k with
  | true => b e1 P
  | false => P false e1
def mOrT (a b : MT) : MT := fun env P => a env fun k e1 => match k with
  | true => P true e1
  | false => b e1 P
def mNotT (a : MT) : MT := fun env P => a env fun k e1 => P (!k) e1
def mAndV (a b : ME) : ME := fun env P => a env fun x e1 => match x with
  | .bool true => b e1 P
  | .bool false => P (.bool false) e1
  | _ => False
def mOrV (a b : ME) : ME := fun env P => a env fun x e1 => match x with
  | .bool true => P (.bool true) e1
  | .bool false => b e1 P
  | _ => False
def mNotV (a : ME) : ME := fun env P => a env fun x e1 => match x with
  | .bool k => P (.bool (!k)) e1
  | _ => False
def mIf (t : MT) (a b : ME) : ME := fun env P => t env fun k e1 => match k with
  | true => a e1 P
  | false => b e1 P
def mNil : MA := fun env P => P [] env
def mCons (a : ME) (r : MA) : MA := fun env P => a env fun x e1 => r e1 fun as e2 => P (.d x :: as) e2
def mConsH (i : Nat) (r : MA) : MA := fun env P => match env[i]? with
  | some .hd => r env fun as e2 => P (.hd :: as) e2
  | _ => False
def dats : List EV → Option (List D)
  | [] => some []
  | .d x :: r => (dats r).map (x :: ·)
  | _ :: _ => none
def mDats (as : List EV) (f : List D → Prop) : Prop := match dats as with
  | some ds => f ds
  | none => False
def mTup (a : MA) : ME := fun env P => a env fun as e1 => mDats as fun ds => ds.length ≤ sizeLine ∧ P (.tuple ds) e1
def mLst (a : MA) : MF := fun env P => a env fun as e1 => mDats as fun ds => ds.length ≤ sizeLine ∧ P ds e1
def mPubF (f : MF) : ME := fun env P => f env fun ds e1 => P (.list ds) e1
/-- a built-in's call on data -/
def mCB (f : List D → (D → Prop) → Prop) (a : MA) : ME := fun env P => a env fun as e1 => mDats as fun ds => f ds fun z => P z e1
/-- a def's call -/
def mCall (sp : List EV → (D → Prop) → Prop) (a : MA) : ME := fun env P => a env fun as e1 => sp as fun z => P z e1
/-- a method of a built-in type -/
def mBM (f : D → List D → (D → Prop) → Prop) (o : ME) (a : MA) : ME := fun env P => o env fun x e1 => a e1 fun as e2 => mDats as fun ds => f x ds fun z => P z e2
theorem dats_ok {K : PySem.W.Frag} {W : Wd} {G : Hp} : ∀ {vs : List V} {as : List EV} {ds : List D}, ArgsOk K W G vs as → dats as = some ds → DrAll K G vs ds
  | _, _, _, .nil, h => by
    cases h
    exact .nil
  | _, _, _, .cons (a := .d x) a t, h => by
    simp only [dats, Option.map_eq_some_iff] at h
    obtain ⟨r, h1, rfl⟩ := h
    exact .cons a (dats_ok t h1)
  | _, _, _, .cons (a := .hd) a t, h => by cases h
  | _, _, _, .cons (a := .un) a t, h => by cases h
  | _, _, _, .cons (a := .own _) a t, h => by cases h
theorem mDats_ok {as : List EV} {f : List D → Prop} (h : mDats as f) : ∃ ds, dats as = some ds ∧ f ds := by
  unfold mDats at h
  split at h
  · exact ⟨_, by assumption, h⟩
  · exact h.elim
theorem args_same {K : PySem.W.Frag} {W : Wd} {G G' : Hp} (e : Same G G') : ∀ {vs : List V} {as : List EV}, ArgsOk K W G vs as → ArgsOk K W G' vs as
  | _, _, .nil => .nil
  | _, _, .cons (a := .d x) a t => .cons (dp_same (v := _) e a) (args_same e t)
  | _, _, .cons (a := .hd) a t => .cons (a := .hd) a (args_same e t)
  | _, _, .cons (a := .un) a t => a.elim
  | _, _, .cons (a := .own _) a t => a.elim
/-! ### rules by values -/
def rD2 (K : PySem.W.Frag) (f : D → D → (D → Prop) → Prop) : R2 := fun x y H Q => ∃ (G : Hp) (dx dy : D) (P : D → Prop), Same G H ∧ Dr K G x dx ∧ Dr K G y dy ∧ f dx dy P ∧
  ∀ z v G' H', P z → Grow G H G' H' → Dr K G' v z → Q v H'
def rDC2 (K : PySem.W.Frag) (f : D → D → (Bool → Prop) → Prop) : R2 := fun x y H Q => ∃ (G : Hp) (dx dy : D) (P : Bool → Prop), Same G H ∧ Dr K G x dx ∧ Dr K G y dy ∧ f dx dy P ∧
  ∀ b, P b → Q (.bl b) H
def rD1 (K : PySem.W.Frag) (f : D → (D → Prop) → Prop) : V → Hp → VK → Prop := fun x H Q => ∃ (G : Hp) (dx : D) (P : D → Prop), Same G H ∧ Dr K G x dx ∧ f dx P ∧
  ∀ z v G' H', P z → Grow G H G' H' → Dr K G' v z → Q v H'
def rDC (K : PySem.W.Frag) (f : List D → (D → Prop) → Prop) : List V → Hp → VK → Prop := fun xs H Q => ∃ (G : Hp) (ds : List D) (P : D → Prop), Same G H ∧ DrAll K G xs ds ∧ f ds P ∧
  ∀ z v G' H', P z → Grow G H G' H' → Dr K G' v z → Q v H'
def rDM (K : PySem.W.Frag) (f : D → List D → (D → Prop) → Prop) : V → List V → Hp → VK → Prop := fun o xs H Q => ∃ (G : Hp) (x : D) (ds : List D) (P : D → Prop), Same G H ∧ Dr K G o x ∧ DrAll K G xs ds ∧ f x ds P ∧
  ∀ z v G' H', P z → Grow G H G' H' → Dr K G' v z → Q v H'
section
variable {X : Cx} {a b c e o : Expr} {es : List Expr} {pos p : Pos} {ma mb mc me : ME} {mt mu : MT} {na nb nc ne n1 n2 : Nat}
theorem ge_var (i : Nat) {x : Str} (hN : X.N[i]? = some x := by rfl) (hv : Vis X.env.scope x := by first | exact Or.inl rfl | exact Or.inr (Or.inl rfl) | exact Or.inr (Or.inr rfl)) (hd : (x == ("__debug__" : Str)) = false := by decide)
    (hcd : (x == ("__classdict__" : Str)) = false := by decide) : GE X (.Name x pos) 0 (mVar i) := pe_imp (pe_var hN hv hd hcd) fun σ H Q h => by
  obtain ⟨W, B, G0, H0, G, env, P, R, hm, q⟩ := h
  unfold mVar at hm
  split at hm
  · obtain ⟨v, e1, q1⟩ := R.get_d (by assumption)
    exact ⟨v, e1, q _ _ _ _ _ hm (Same.refl _) R q1⟩
  · obtain ⟨l, vs, e1, hl, hg, h0, hmu, hq⟩ := R.get_own (by assumption)
    obtain ⟨R2, d2, s2⟩ := R.publish (by assumption) e1 hl hg h0 hmu hq
    exact ⟨_, e1, q _ _ _ _ _ hm s2 R2 d2⟩
  · exact hm.elim
theorem ge_c {x : D} {v : V} (h : PE X e (tC v)) (hd : ∀ G, Dr X.K G v x) : GE X e 0 (mC x) := pe_imp h fun σ H Q h => by
  obtain ⟨W, B, G0, H0, G, env, P, R, hm, q⟩ := h
  exact q _ _ _ _ _ hm (Same.refl _) R (hd G)
theorem ge_int {i : Int} {j : Nat} : GE X (.Constant (.int i) j pos) 0 (mC (.int i)) := ge_c pe_int fun _ => .int _
theorem ge_bl {b : Bool} {j : Nat} : GE X (.Constant (.bool b) j pos) 0 (mC (.bool b)) := ge_c pe_bl fun _ => .bl _
theorem ge_str {z : Str} {j : Nat} : GE X (.Constant (.str z) j pos) 0 (mC (.str z)) := ge_c pe_str fun _ => .str _
theorem ge_non {j : Nat} : GE X (.Constant .none j pos) 0 (mC .none) := ge_c pe_non fun _ => .non
theorem ge_glob {x : Str} {v : V} {u : Value} {y : D} (hg : Gl X x) (hm : X.mg x = some u) (r : RelV v u) (hd : ∀ G, Dr X.K G v y) (hdb : (x == ("__debug__" : Str)) = false := by decide) : GE X (.Name x pos) 0 (mC y) := ge_c (pe_glob hg hm r hdb) hd
/-- a two-place operation -/
theorem two_ok {f : D → D → (D → Prop) → Prop} {σ : L2.St} {H : Hp} {Q : VK} {r : R2} (hr : ∀ x y H Q, rD2 X.K f x y H Q → r x y H Q) (h : tD X.K (na + nb) (mOp f ma mb) σ H Q) : tOp r (tD X.K na ma) (tD X.K nb mb) σ H Q := by
  obtain ⟨W, B, G0, H0, G, env, P, R, hm, q⟩ := h
  refine ⟨W, B + nb, G0, H0, G, env, _, R.le (by omega), hm, fun x e1 v G1 H1 p1 s1 R1 d1 => ⟨W, _, G0, H0, G1, e1, _, R1, p1, fun y e2 u G2 H2 p2 s2 R2 d2 => hr _ _ _ _ ⟨G2, x, y, _, R2.pub, dp_same s2 d1, d2, p2, fun z w G3 H3 p3 g3 d3 => ?_⟩⟩⟩
  exact q z e2 w G3 H3 p3 ((s1.trans s2).trans g3.eg) (R2.grow g3) d3
theorem ge_op {op : Operator} {f : D → D → (D → Prop) → Prop} (ho : OpR X (binaryOp op) (rD2 X.K f)) (ha : GE X a na ma) (hb : GE X b nb mb) : GE X (.BinOp a op b pos) (na + nb) (mOp f ma mb) :=
  pe_imp (pe_op ho ha hb) fun σ H Q h => two_ok (fun _ _ _ _ z => z) h
theorem ge_ix {f : D → D → (D → Prop) → Prop} (ho : IxR X (rD2 X.K f)) (ha : GE X a na ma) (hb : GE X b nb mb) (hs : PlainIx b) : GE X (.Subscript a b pos) (na + nb) (mOp f ma mb) :=
  pe_imp (pe_ix ho ha hb hs) fun σ H Q h => two_ok (fun _ _ _ _ z => z) h
theorem cmp_ok {f : D → D → (Bool → Prop) → Prop} {σ : L2.St} {H : Hp} {Q : VK} (h : tD X.K (na + nb) (mCmp f ma mb) σ H Q) : tOp (rDC2 X.K f) (tD X.K na ma) (tD X.K nb mb) σ H Q := by
  obtain ⟨W, B, G0, H0, G, env, P, R, hm, q⟩ := h
  refine ⟨W, B + nb, G0, H0, G, env, _, R.le (by omega), hm, fun x e1 v G1 H1 p1 s1 R1 d1 => ⟨W, _, G0, H0, G1, e1, _, R1, p1, fun y e2 u G2 H2 p2 s2 R2 d2 => ⟨G2, x, y, _, R2.pub, dp_same s2 d1, d2, p2, fun b p3 => ?_⟩⟩⟩
  exact q _ e2 _ G2 H2 p3 (s1.trans s2) R2 (.bl b)
theorem cmpT_ok {f : D → D → (Bool → Prop) → Prop} {σ : L2.St} {H : Hp} {Q : Bool → Hp → Prop} (h : tDT X.K (na + nb) (mCmpT f ma mb) σ H Q) : tTest (tOp (rDC2 X.K f) (tD X.K na ma) (tD X.K nb mb)) σ H Q := by
  obtain ⟨W, B, G0, H0, G, env, P, R, hm, q⟩ := h
  refine ⟨W, B + nb, G0, H0, G, env, _, R.le (by omega), hm, fun x e1 v G1 H1 p1 s1 R1 d1 => ⟨W, _, G0, H0, G1, e1, _, R1, p1, fun y e2 u G2 H2 p2 s2 R2 d2 => ⟨G2, x, y, _, R2.pub, dp_same s2 d1, d2, p2, fun b p3 => ⟨b, rfl, ?_⟩⟩⟩⟩
  exact q _ e2 G2 H2 p3 (s1.trans s2) R2
theorem ge_cmp {op : CmpOp} {f : D → D → (Bool → Prop) → Prop} (ho : OpR X (compareOp op) (rDC2 X.K f)) (ha : GE X a na ma) (hb : GE X b nb mb) (hm : behindInMarks op b = false) : GE X (.Compare a [op] [b] pos) (na + nb) (mCmp f ma mb) :=
  pe_imp (pe_cmpR ho ha hb hm) fun σ H Q h => cmp_ok h
theorem gt_cmp {op : CmpOp} {f : D → D → (Bool → Prop) → Prop} (ho : OpR X (compareOp op) (rDC2 X.K f)) (ha : GE X a na ma) (hb : GE X b nb mb) (hm : behindInMarks op b = false) : GT X (.Compare a [op] [b] pos) (na + nb) (mCmpT f ma mb) :=
  pt_imp (pt_cmpR ho ha hb hm) fun σ H Q h => cmpT_ok h
theorem ge_un {op : UnaryOp} {f : D → (D → Prop) → Prop} (ho : UnR X (unaryOp op) (rD1 X.K f)) (ha : GE X a na ma) : GE X (.UnaryOp op a pos) na (mUn f ma) :=
  pe_imp (pe_un ho ha) fun σ H Q h => by
    obtain ⟨W, B, G0, H0, G, env, P, R, hm, q⟩ := h
    refine ⟨W, B, G0, H0, G, env, _, R, hm, fun x e1 v G1 H1 p1 s1 R1 d1 => ⟨G1, x, _, R1.pub, d1, p1, fun z w G3 H3 p3 g3 d3 => ?_⟩⟩
    exact q z e1 w G3 H3 p3 (s1.trans g3.eg) (R1.grow g3) d3
theorem gt_test (ha : GE X a na ma) (hp : PT X a (tTest (tD X.K na ma))) : GT X a na (mTest ma) := pt_imp hp fun σ H Q h => by
  obtain ⟨W, B, G0, H0, G, env, P, R, hm, q⟩ := h
  refine ⟨W, B, G0, H0, G, env, _, R, hm, fun x e1 v G1 H1 p1 s1 R1 d1 => ?_⟩
  cases x with
  | bool b =>
    cases dp_bl d1
    exact ⟨b, rfl, q b e1 G1 H1 p1 s1 R1⟩
  | _ => exact False.elim p1
theorem gt_and (ha : GT X a na mt) (hb : GW X (.BoolOp .And (b :: es) pos) nb mu) : GW X (.BoolOp .And (a :: b :: es) pos) (na + nb) (mAndT mt mu) := pw_imp (pw_and ha hb) fun σ H Q h => by
  obtain ⟨W, B, G0, H0, G, env, P, R, hm, q⟩ := h
  refine ⟨W, B + nb, G0, H0, G, env, _, R.le (by omega), hm, fun k e1 G1 H1 p1 s1 R1 => ?_⟩
  cases k with
  | true =>
    refine iteT ⟨W, _, G0, H0, G1, e1, _, R1, p1, fun b e2 G2 H2 p2 s2 R2 => q b e2 G2 H2 p2 (s1.trans s2) R2⟩
  | false => exact iteF (q false e1 G1 H1 p1 s1 (R1.le (by omega)))
theorem gt_or (ha : GT X a na mt) (hb : GW X (.BoolOp .Or (b :: es) pos) nb mu) : GW X (.BoolOp .Or (a :: b :: es) pos) (na + nb) (mOrT mt mu) := pw_imp (pw_or ha hb) fun σ H Q h => by
  obtain ⟨W, B, G0, H0, G, env, P, R, hm, q⟩ := h
  refine ⟨W, B + nb, G0, H0, G, env, _, R.le (by omega), hm, fun k e1 G1 H1 p1 s1 R1 => ?_⟩
  cases k with
  | true => exact iteT (q true e1 G1 H1 p1 s1 (R1.le (by omega)))
  | false => exact iteF ⟨W, _, G0, H0, G1, e1, _, R1, p1, fun b e2 G2 H2 p2 s2 R2 => q b e2 G2 H2 p2 (s1.trans s2) R2⟩
theorem gt_not (ha : GT X a na mt) : GT X (.UnaryOp .Not a pos) na (mNotT mt) := pt_imp (pt_not ha) fun σ H Q h => by
  obtain ⟨W, B, G0, H0, G, env, P, R, hm, q⟩ := h
  exact ⟨W, B, G0, H0, G, env, _, R, hm, fun k e1 G1 H1 p1 s1 R1 => q _ e1 G1 H1 p1 s1 R1⟩
end
end DL
namespace DL
open PySem PySem.Spec PyProof.Rows L2
section
variable {X : Cx} {a b c e o : Expr} {es : List Expr} {pos p : Pos} {ma mb mc me : ME} {mt mu : MT} {m1 m2 : MA} {na nb nc ne nt n1 n2 no : Nat}
theorem gt_val (ha : GE X a na ma) (he : ∀ whole, isTrue a X.env whole = (do let v ← whole; standAt a.pos; holding [v] (truthy v)) := by intro _; rfl) : GT X a na (mTest ma) := pt_imp (pt_val ha he) fun σ H Q h => by
  obtain ⟨W, B, G0, H0, G, env, P, R, hm, q⟩ := h
  refine ⟨W, B, G0, H0, G, env, _, R, hm, fun x e1 v G1 H1 p1 s1 R1 d1 => ?_⟩
  cases x with
  | bool b =>
    cases dp_bl d1
    exact ⟨b, rfl, q b e1 G1 H1 p1 s1 R1⟩
  | _ => exact False.elim p1
theorem tru_v {K : PySem.W.Frag} {G H : Hp} {v : V} {x : D} {P : Bool → Prop} (s : Same G H) (d : Dr K G v x) (h : truD x P) : ∃ k, TruV K v H k ∧ P k := by
  cases x with
  | none => cases dp_non d; exact ⟨_, rfl, h⟩
  | bool b => cases dp_bl d; exact ⟨_, rfl, h⟩
  | int i => cases dp_int d; exact ⟨_, rfl, h⟩
  | str z => cases dp_str d; exact ⟨_, ⟨h.1, rfl⟩, h.2⟩
  | list xs =>
    obtain ⟨a, vs, rfl, h1, h2⟩ := dp_lst d
    refine ⟨_, .inl ⟨vs, SqL.of (s _ _ h1), rfl⟩, ?_⟩
    have e : (!vs.isEmpty) = !xs.isEmpty := by
      cases h2 <;> rfl
    rw [e]
    exact h
  | tuple xs =>
    obtain ⟨a, vs, rfl, h1, h2⟩ := dp_tup d
    refine ⟨_, .inr (.inl ⟨vs, same_sqT s h1, rfl⟩), ?_⟩
    have e : (!vs.isEmpty) = !xs.isEmpty := by
      cases h2 <;> rfl
    rw [e]
    exact h
  | dict _ => exact h.elim
theorem gt_tru (ha : GE X a na ma) (he : ∀ whole, isTrue a X.env whole = (do let v ← whole; standAt a.pos; holding [v] (truthy v)) := by intro _; rfl) : GT X a na (mTru ma) := pt_imp (pt_truth ha he) fun σ H Q h => by
  obtain ⟨W, B, G0, H0, G, env, P, R, hm, q⟩ := h
  refine ⟨W, B, G0, H0, G, env, _, R, hm, fun x e1 v G1 H1 p1 s1 R1 d1 => ?_⟩
  obtain ⟨k, h1, h2⟩ := tru_v R1.pub d1 p1
  exact ⟨k, h1, q k e1 G1 H1 h2 s1 R1⟩
theorem ge_andV (ha : GE X a na ma) (hb : GE X (.BoolOp .And (b :: es) pos) nb mb) : GE X (.BoolOp .And (a :: b :: es) pos) (na + nb) (mAndV ma mb) := pe_imp (pe_and ha hb) fun σ H Q h => by
  obtain ⟨W, B, G0, H0, G, env, P, R, hm, q⟩ := h
  refine ⟨W, B + nb, G0, H0, G, env, _, R.le (by omega), hm, fun x e1 v G1 H1 p1 s1 R1 d1 => ?_⟩
  cases x with
  | bool k =>
    cases dp_bl d1
    refine ⟨k, rfl, ?_⟩
    cases k with
    | true => exact iteT ⟨W, _, G0, H0, G1, e1, _, R1, p1, fun y e2 u G2 H2 p2 s2 R2 d2 => q y e2 u G2 H2 p2 (s1.trans s2) R2 d2⟩
    | false => exact iteF (q _ e1 _ G1 H1 p1 s1 (R1.le (by omega)) (.bl false))
  | _ => exact False.elim p1
theorem ge_orV (ha : GE X a na ma) (hb : GE X (.BoolOp .Or (b :: es) pos) nb mb) : GE X (.BoolOp .Or (a :: b :: es) pos) (na + nb) (mOrV ma mb) := pe_imp (pe_or ha hb) fun σ H Q h => by
  obtain ⟨W, B, G0, H0, G, env, P, R, hm, q⟩ := h
  refine ⟨W, B + nb, G0, H0, G, env, _, R.le (by omega), hm, fun x e1 v G1 H1 p1 s1 R1 d1 => ?_⟩
  cases x with
  | bool k =>
    cases dp_bl d1
    refine ⟨k, rfl, ?_⟩
    cases k with
    | true => exact iteT (q _ e1 _ G1 H1 p1 s1 (R1.le (by omega)) (.bl true))
    | false => exact iteF ⟨W, _, G0, H0, G1, e1, _, R1, p1, fun y e2 u G2 H2 p2 s2 R2 d2 => q y e2 u G2 H2 p2 (s1.trans s2) R2 d2⟩
  | _ => exact False.elim p1
theorem ge_notV (ha : GE X a na ma) : GE X (.UnaryOp .Not a pos) na (mNotV ma) := pe_imp (pe_not ha) fun σ H Q h => by
  obtain ⟨W, B, G0, H0, G, env, P, R, hm, q⟩ := h
  refine ⟨W, B, G0, H0, G, env, _, R, hm, fun x e1 v G1 H1 p1 s1 R1 d1 => ?_⟩
  cases x with
  | bool k =>
    cases dp_bl d1
    exact ⟨k, rfl, q _ e1 _ G1 H1 p1 s1 R1 (.bl _)⟩
  | _ => exact False.elim p1
theorem ge_if (ht : GT X c nt mt) (ha : GE X a na ma) (hb : GE X b nb mb) : GE X (.IfExp c a b pos) (nt + (na + nb)) (mIf mt ma mb) := pe_imp (pe_ifExp ht ha hb) fun σ H Q h => by
  obtain ⟨W, B, G0, H0, G, env, P, R, hm, q⟩ := h
  refine ⟨W, B + (na + nb), G0, H0, G, env, _, R.le (by omega), hm, fun k e1 G1 H1 p1 s1 R1 => ?_⟩
  cases k with
  | true => exact iteT ⟨W, B + nb, G0, H0, G1, e1, _, R1.le (by omega), p1, fun y e2 u G2 H2 p2 s2 R2 d2 => q y e2 u G2 H2 p2 (s1.trans s2) (R2.le (by omega)) d2⟩
  | false => exact iteF ⟨W, B + na, G0, H0, G1, e1, _, R1.le (by omega), p1, fun y e2 u G2 H2 p2 s2 R2 d2 => q y e2 u G2 H2 p2 (s1.trans s2) (R2.le (by omega)) d2⟩
theorem ge_chain {op op' : CmpOp} {f g : D → D → (Bool → Prop) → Prop} (ho : OpR X (compareOp op) (rDC2 X.K f)) (ho' : OpR X (compareOp op') (rDC2 X.K g)) (ha : GE X a na ma) (hb : GE X b nb mb) (hc : GE X c nc mc)
    (hm : lastMarks [op, op'] [b, c] = false := by with_unfolding_all rfl) : GE X (.Compare a [op, op'] [b, c] pos) (na + (nb + nc)) (mChain f g ma mb mc) := pe_imp (pe_chain ho ho' ha hb hc hm) fun σ H Q h => by
  obtain ⟨W, B, G0, H0, G, env, P, R, hm, q⟩ := h
  refine ⟨W, B + (nb + nc), G0, H0, G, env, _, R.le (by omega), hm, fun x e1 v G1 H1 p1 s1 R1 d1 => ⟨W, B + nc, G0, H0, G1, e1, _, R1.le (by omega), p1, fun y e2 u G2 H2 p2 s2 R2 d2 => ⟨G2, x, y, _, R2.pub, dp_same s2 d1, d2, p2, fun k p3 => ⟨k, rfl, ?_⟩⟩⟩⟩
  cases k with
  | true => exact iteT ⟨W, _, G0, H0, G2, e2, _, R2, p3, fun z e3 w G3 H3 p4 s3 R3 d3 => ⟨G3, y, z, _, R3.pub, dp_same s3 d2, d3, p4, fun k p5 => q _ e3 _ G3 H3 p5 ((s1.trans s2).trans s3) R3 (.bl k)⟩⟩
  | false => exact iteF (q _ e2 _ G2 H2 p3 (s1.trans s2) (R2.le (by omega)) (.bl false))
theorem gt_chain {op op' : CmpOp} {f g : D → D → (Bool → Prop) → Prop} (ho : OpR X (compareOp op) (rDC2 X.K f)) (ho' : OpR X (compareOp op') (rDC2 X.K g)) (ha : GE X a na ma) (hb : GE X b nb mb) (hc : GE X c nc mc)
    (hm : lastMarks [op, op'] [b, c] = false := by with_unfolding_all rfl) : GT X (.Compare a [op, op'] [b, c] pos) (na + (nb + nc)) (mChainT f g ma mb mc) := pt_imp (pt_chain ho ho' ha hb hc hm) fun σ H Q h => by
  obtain ⟨W, B, G0, H0, G, env, P, R, hm, q⟩ := h
  refine ⟨W, B + (nb + nc), G0, H0, G, env, _, R.le (by omega), hm, fun x e1 v G1 H1 p1 s1 R1 d1 => ⟨W, B + nc, G0, H0, G1, e1, _, R1.le (by omega), p1, fun y e2 u G2 H2 p2 s2 R2 d2 => ⟨G2, x, y, _, R2.pub, dp_same s2 d1, d2, p2, fun k p3 => ⟨k, rfl, ?_⟩⟩⟩⟩
  cases k with
  | true => exact iteT ⟨W, _, G0, H0, G2, e2, _, R2, p3, fun z e3 w G3 H3 p4 s3 R3 d3 => ⟨G3, y, z, _, R3.pub, dp_same s3 d2, d3, p4, fun k p5 => ⟨k, rfl, q _ e3 G3 H3 p5 ((s1.trans s2).trans s3) R3⟩⟩⟩
  | false => exact iteF ⟨false, rfl, q _ e2 G2 H2 p3 (s1.trans s2) (R2.le (by omega))⟩
/-! ### arguments, displays, calls -/
theorem ga_nil : GA X [] 0 mNil := pa_imp pa_nil fun σ H Q h => by
  obtain ⟨W, B, G0, H0, G, env, P, R, hm, q⟩ := h
  exact q _ _ _ _ _ hm (Same.refl _) R .nil
theorem ga_cons (ha : GE X e ne me) (hr : GA X es n1 m1) (hs : starEach (e :: es) X.env = (false, eval e X.env) :: starEach es X.env := by rfl) : GA X (e :: es) (ne + n1) (mCons me m1) := pa_imp (pa_cons ha hr hs) fun σ H Q h => by
  obtain ⟨W, B, G0, H0, G, env, P, R, hm, q⟩ := h
  refine ⟨W, B + n1, G0, H0, G, env, _, R.le (by omega), hm, fun x e1 v G1 H1 p1 s1 R1 d1 => ⟨W, _, G0, H0, G1, e1, _, R1, p1, fun as e2 vs G2 H2 p2 s2 R2 d2 => ?_⟩⟩
  exact q _ e2 _ G2 H2 p2 (s1.trans s2) R2 (.cons (a := .d x) (dp_same s2 d1) d2)
theorem ga_hd (i : Nat) {x : Str} (hr : GA X es n1 m1) (hN : X.N[i]? = some x := by rfl) (hv : Vis X.env.scope x := by first | exact Or.inl rfl | exact Or.inr (Or.inl rfl) | exact Or.inr (Or.inr rfl)) (hd : (x == ("__debug__" : Str)) = false := by decide)
    (hcd : (x == ("__classdict__" : Str)) = false := by decide) (hs : starEach (.Name x pos :: es) X.env = (false, eval (.Name x pos) X.env) :: starEach es X.env := by rfl) : GA X (.Name x pos :: es) n1 (mConsH i m1) := pa_imp (pa_cons (pe_var hN hv hd hcd) hr hs) fun σ H Q h => by
  obtain ⟨W, B, G0, H0, G, env, P, R, hm, q⟩ := h
  unfold mConsH at hm
  split at hm
  · obtain ⟨e1, nn⟩ := R.get_hd (by assumption)
    refine ⟨_, e1, W, B, G0, H0, G, env, _, R, hm, fun as e2 vs G2 H2 p2 s2 R2 d2 => ?_⟩
    exact q _ e2 _ G2 H2 p2 s2 R2 (.cons (a := .hd) ⟨rfl, nn⟩ d2)
  · exact hm.elim
theorem Rel.fresh {K : PySem.W.Frag} {W : Wd} {B : Nat} {G0 H0 G H : Hp} {env : DEnv} {σ : L2.St} {p : Addr} {o : HO} (R : Rel K W B G0 H0 G env σ H) (hp : H p = none) :
    Rel K W B G0 H0 G env σ (upd H p o) ∧ G p = none ∧ H0 p = none ∧ ¬ W.mu p ∧ ∀ (i : Nat) l ys, env[i]? = some (.own ys) → σ[i]? = some (some (.ref l)) → l ≠ p := by
  have hm : ¬ W.mu p := fun m => by
    obtain ⟨u, e⟩ := W.trk _ H p R.inv m
    rw [e] at hp
    cases hp
  refine ⟨R.grow (Grow.hid R.pub hp), R.pub.free hp, ?_, hm, fun i l ys h1 h2 e => ?_⟩
  · cases z : H0 p with
    | none => rfl
    | some u =>
      rw [R.fr p u z hm] at hp
      cases hp
  · obtain ⟨l2, vs, e2, hl, _⟩ := R.get_own h1
    rw [h2] at e2
    cases e2
    rw [e, hp] at hl
    cases hl
theorem ge_tup {x1 : Nat} (h : GA X es n1 m1) : GE X (.Tuple es x1 pos) n1 (mTup m1) := pe_imp (pe_tup h) fun σ H Q h => by
  obtain ⟨W, B, G0, H0, G, env, P, R, hm, q⟩ := h
  refine ⟨W, B, G0, H0, G, env, _, R, hm, fun as e1 vs G1 H1 p1 s1 R1 a1 => ?_⟩
  obtain ⟨ds, hd, hl, hP⟩ := mDats_ok p1
  have da := dats_ok a1 hd
  refine ⟨by rw [dpAll_len da]; exact hl, fun t ht => ?_⟩
  have g : Grow G1 H1 (upd G1 t (.tup vs)) (upd H1 t (.tup vs)) := Grow.new1 R1.pub ht
  exact q _ e1 _ _ _ hP (s1.trans g.eg) (R1.grow g) (.tup (SqT.of upd_same) (dpAll_same g.eg da))
theorem gf_lst (h : GA X es n1 m1) : GF X (.List es pos) n1 (mLst m1) := pe_imp (pe_lst h) fun σ H Q h => by
  obtain ⟨W, B, G0, H0, G, env, P, R, hm, q⟩ := h
  refine ⟨W, B, G0, H0, G, env, _, R, hm, fun as e1 vs G1 H1 p1 s1 R1 a1 => ?_⟩
  obtain ⟨ds, hd, hl, hP⟩ := mDats_ok p1
  have da := dats_ok a1 hd
  refine ⟨by rw [dpAll_len da]; exact hl, fun t ht => ?_⟩
  obtain ⟨R2, f1, f2, f3, f4⟩ := R1.fresh (o := .lst vs) ht
  exact q _ e1 _ _ _ hP s1 R2 ⟨vs, upd_same, f1, f2, f3, f4, da⟩
/-- a fresh list is published -/
theorem Rel.pubF {K : PySem.W.Frag} {W : Wd} {B : Nat} {G0 H0 G H : Hp} {env : DEnv} {σ : L2.St} {p : Addr} {xs : List D} (R : Rel K W B G0 H0 G env σ H) (h : FreshAt K W H0 G env σ H p xs) :
    ∃ G', Same G G' ∧ Rel K W B G0 H0 G' env σ H ∧ Dr K G' (.ref p) (.list xs) := by
  obtain ⟨vs, hp, hg, h0, hm, hd, hq⟩ := h
  have eg : Same G (upd G p (.lst vs)) := same_upd hg
  refine ⟨upd G p (.lst vs), eg, { g0 := R.g0.trans eg, pub := fun a u e => ?_, gm := fun a m => ?_, inv := R.inv, fr := R.fr, pn := fun a o e e0 => ?_, len := R.len, slot := fun j e s h1 h2 => ?_, dis := R.dis }, .lst upd_same (dpAll_same eg hq)⟩
  · by_cases z : a = p
    · subst z
      rw [upd_same] at e
      cases e
      exact hp
    · rw [upd_ne z] at e
      exact R.pub a u e
  · by_cases z : a = p
    · subst z
      exact absurd m hm
    · rw [upd_ne z]
      exact R.gm a m
  · by_cases z : a = p
    · subst z
      exact h0
    · rw [upd_ne z] at e
      exact R.pn a o e e0
  · have q := R.slot j e s h1 h2
    cases e with
    | un => trivial
    | d x =>
      obtain ⟨v, e1, q1⟩ := q
      exact ⟨v, e1, dp_same eg q1⟩
    | own ys =>
      obtain ⟨l2, us, e1, hl2, n2, z0, m2, q1⟩ := q
      refine ⟨l2, us, e1, hl2, ?_, z0, m2, dpAll_same eg q1⟩
      subst e1
      rw [upd_ne (hd j l2 ys h1 h2)]
      exact n2
    | hd => exact q
theorem ge_pub {mf : MF} (h : GF X e ne mf) : GE X e ne (mPubF mf) := pe_imp h fun σ H Q h => by
  obtain ⟨W, B, G0, H0, G, env, P, R, hm, q⟩ := h
  refine ⟨W, B, G0, H0, G, env, _, R, hm, fun xs e1 p G1 H1 p1 s1 R1 f1 => ?_⟩
  obtain ⟨G2, s2, R2, d2⟩ := R1.pubF f1
  exact q _ e1 _ G2 H1 p1 (s1.trans s2) R2 d2
theorem ge_lst (h : GA X es n1 m1) : GE X (.List es pos) n1 (mPubF (mLst m1)) := ge_pub (gf_lst h)
theorem cb_ok {f : List D → (D → Prop) → Prop} {σ : L2.St} {H : Hp} {Q : VK} (h : tD X.K n1 (mCB f m1) σ H Q) : tCB (rDC X.K f) (tA X.K n1 m1) σ H Q := by
  obtain ⟨W, B, G0, H0, G, env, P, R, hm, q⟩ := h
  refine ⟨W, B, G0, H0, G, env, _, R, hm, fun as e1 vs G1 H1 p1 s1 R1 a1 => ?_⟩
  obtain ⟨ds, hd, hP⟩ := mDats_ok p1
  exact ⟨G1, ds, _, R1.pub, dats_ok a1 hd, hP, fun z v G2 H2 p2 g2 d2 => q z e1 v G2 H2 p2 (s1.trans g2.eg) (R1.grow g2) d2⟩
theorem ge_callB {id : String} {x : Str} {f : List D → (D → Prop) → Prop} (hc : CallR X (.builtin id) (rDC X.K f)) (hg : Gl X x) (hm : X.mg x = none) (hv : bootBuiltins x = some (.builtin id)) (ha : GA X (e :: es) n1 m1) (hn : x ≠ "__name__" := by decide) (hdb : (x == ("__debug__" : Str)) = false := by decide)
    (he : starEach (e :: es) X.env = (false, eval e X.env) :: starEach es X.env := by rfl) (hpl : (backTo pos (starEach es X.env)).any (·.1) = false := by rfl) : GE X (.Call (.Name x p) (e :: es) [] pos) n1 (mCB f m1) :=
  pe_imp (pe_callB hc hg hm hv ha hn hdb he hpl) fun σ H Q h => cb_ok h
theorem ge_callTy {T : String} {x : Str} {f : List D → (D → Prop) → Prop} (hc : CallR X (.type T) (rDC X.K f)) (hg : Gl X x) (hm : X.mg x = none) (hv : bootBuiltins x = some (.type T)) (ha : GA X (e :: es) n1 m1) (hn : x ≠ "__name__" := by decide) (hdb : (x == ("__debug__" : Str)) = false := by decide)
    (he : starEach (e :: es) X.env = (false, eval e X.env) :: starEach es X.env := by rfl) (hpl : (backTo pos (starEach es X.env)).any (·.1) = false := by rfl) : GE X (.Call (.Name x p) (e :: es) [] pos) n1 (mCB f m1) :=
  pe_imp (pe_callTy hc hg hm hv ha hn hdb he hpl) fun σ H Q h => cb_ok h
/-! ### a def's promise on data -/
def spD (K : PySem.W.Frag) (c : Nat) (sp : List EV → (D → Prop) → Prop) : Sp := fun vs H Q _ => ∃ (W : Wd) (B : Nat) (G : Hp) (as : List EV) (P : D → Prop), RW W (B + c) G H G H ∧ ArgsOk K W G vs as ∧ sp as P ∧
  ∀ x v G' H', P x → RW W B G H G' H' → Dr K G' v x → Q v H'
theorem call_ok {cc : Nat} {sp : List EV → (D → Prop) → Prop} {E : XK} {σ : L2.St} {H : Hp} {Q : VK} (h : tD X.K (n1 + cc) (mCall sp m1) σ H Q) : tCall (spD X.K cc sp) [] E (tA X.K n1 m1) σ H Q := by
  obtain ⟨W, B, G0, H0, G, env, P, R, hm, q⟩ := h
  refine ⟨W, B + cc, G0, H0, G, env, _, R.le (by omega), hm, fun as e1 vs G1 H1 p1 s1 R1 a1 => ?_⟩
  show spD X.K cc sp (vs ++ []) H1 Q E
  rw [List.append_nil]
  exact ⟨W, B, G1, as, _, R1.toRW.self, a1, p1, fun x v G2 H2 p2 r2 d2 => q x e1 v G2 H2 p2 (s1.trans r2.g0) (R1.after r2) d2⟩
theorem ge_call {CX : CXT} {k cc : Nat} {f : Addr} {fd : FuncData} {ps : List Str} {sp : List EV → (D → Prop) → Prop} {E : XK} {x : Str} (F : FnOk X.prog X.w X.K X.mg X.base CX k f fd ps (spD X.K cc sp)) (hr : Room k X.A) (hg : Gl X x) (hm : X.mg x = some (.ref f)) (hk : PySem.W.keepIn X.K (.ref f) = true) (hb : Binds X.K fd ps []) (hx : Passes CX X E)
    (ha : GA X (e :: es) n1 m1) (hdb : (x == ("__debug__" : Str)) = false := by decide) (he : starEach (e :: es) X.env = (false, eval e X.env) :: starEach es X.env := by rfl) (hpl : (backTo pos (starEach es X.env)).any (·.1) = false := by rfl) :
    GE X (.Call (.Name x p) (e :: es) [] pos) (n1 + cc) (mCall sp m1) := pe_imp (pe_call F hr hg hm hk hb .nil hx ha hdb he hpl) fun σ H Q h => call_ok h
theorem ge_call0 {CX : CXT} {k cc : Nat} {f : Addr} {fd : FuncData} {ps : List Str} {sp : List EV → (D → Prop) → Prop} {E : XK} {x : Str} (F : FnOk X.prog X.w X.K X.mg X.base CX k f fd ps (spD X.K cc sp)) (hr : Room k X.A) (hg : Gl X x) (hm : X.mg x = some (.ref f)) (hk : PySem.W.keepIn X.K (.ref f) = true) (hb : Binds X.K fd ps []) (hx : Passes CX X E)
    (hdb : (x == ("__debug__" : Str)) = false := by decide) : GE X (.Call (.Name x p) [] [] pos) cc (mCall sp mNil) := pe_imp (pe_call0 F hr hg hm hk hb .nil hx hdb) fun σ H Q h => by
  obtain ⟨W, B, G0, H0, G, env, P, R, hm, q⟩ := h
  exact ⟨W, B, G, [], _, R.toRW.self, .nil, hm, fun x v G2 H2 p2 r2 d2 => q x env v G2 H2 p2 r2.g0 (R.after r2) d2⟩
/-! ### a built-in's method -/
/-- the receiver's type by data -/
def tyD : D → String
  | .str _ => "str"
  | .int _ => "int"
  | .list _ => "list"
  | _ => ""
theorem ty_ok {K : PySem.W.Frag} {G H : Hp} {v : V} {x : D} {T : String} (s : Same G H) (d : Dr K G v x) (h : tyD x = T) (hT : T ≠ "") : tyV K T v H := by
  cases x with
  | str z => cases dp_str d; exact h.symm
  | int i => cases dp_int d; exact h.symm
  | list xs =>
    obtain ⟨a, vs, rfl, h1, h2⟩ := dp_lst d
    exact .inl ⟨h.symm, vs, SqL.of (s _ _ h1)⟩
  | _ => exact absurd h.symm hT
def mBMt (T : String) (f : D → List D → (D → Prop) → Prop) (o : ME) (a : MA) : ME := fun env P => o env fun x e1 => tyD x = T ∧ a e1 fun as e2 => mDats as fun ds => f x ds fun z => P z e2
theorem ge_bm {T id : String} {name : Str} {apos cpos : Pos} {f : D → List D → (D → Prop) → Prop} {mo : ME} (pa : PlainAttrs T) (slot : Slot T name id) (hty : typeOf (.builtin id) = pure (.type "method_descriptor")) (hm : MtR X id (rDM X.K f)) (ho : GE X o no mo) (ha : GA X (e :: es) n1 m1) (hT : T ≠ "" := by decide)
    (hbase : attributeBase o name X.env (eval o X.env) = eval o X.env := by rfl)
    (hfew : ((backTo cpos (starEach (e :: es) X.env)).all (fun x => !x.1) && (backToKw cpos (keywordEach [] X.env)).all (fun x => x.1.isSome)
      && decide ((e :: es).length + ([] : List Keyword).length + (if ([] : List Keyword).isEmpty then 0 else 1) < 30)) = true := by rfl)
    (hline : (apos.endLine == cpos.line) = true := by rfl) (hs : starEach (e :: es) X.env = (false, eval e X.env) :: starEach es X.env := by rfl) (hplain : (backTo cpos (starEach es X.env)).any (·.1) = false := by rfl) :
    GE X (.Call (.Attribute o name apos) (e :: es) [] cpos) (no + n1) (mBMt T f mo m1) := pe_imp (pe_bm pa slot hty hm ho ha hbase hfew hline hs hplain) fun σ H Q h => by
  obtain ⟨W, B, G0, H0, G, env, P, R, hm, q⟩ := h
  refine ⟨W, B + n1, G0, H0, G, env, _, R.le (by omega), hm, fun x e1 v G1 H1 p1 s1 R1 d1 => ⟨ty_ok R1.pub d1 p1.1 hT, W, _, G0, H0, G1, e1, _, R1, p1.2, fun as e2 vs G2 H2 p2 s2 R2 a2 => ?_⟩⟩
  obtain ⟨ds, hd, hP⟩ := mDats_ok p2
  exact ⟨G2, x, ds, _, R2.pub, dp_same s2 d1, dats_ok a2 hd, hP, fun z w G3 H3 p3 g3 d3 => q z e2 w G3 H3 p3 ((s1.trans s2).trans g3.eg) (R2.grow g3) d3⟩
theorem ge_bm0 {T id : String} {name : Str} {apos cpos : Pos} {f : D → List D → (D → Prop) → Prop} {mo : ME} (pa : PlainAttrs T) (slot : Slot T name id) (hty : typeOf (.builtin id) = pure (.type "method_descriptor")) (hm : MtR X id (rDM X.K f)) (ho : GE X o no mo) (hT : T ≠ "" := by decide)
    (hbase : attributeBase o name X.env (eval o X.env) = eval o X.env := by rfl) (hline : (apos.endLine == cpos.line) = true := by rfl) : GE X (.Call (.Attribute o name apos) [] [] cpos) no (mBMt T f mo mNil) := pe_imp (pe_bm0 pa slot hty hm ho hbase hline) fun σ H Q h => by
  obtain ⟨W, B, G0, H0, G, env, P, R, hm, q⟩ := h
  refine ⟨W, B, G0, H0, G, env, _, R, hm, fun x e1 v G1 H1 p1 s1 R1 d1 => ⟨ty_ok R1.pub d1 p1.1 hT, ?_⟩⟩
  exact ⟨G1, x, [], _, R1.pub, d1, .nil, p1.2, fun z w G3 H3 p3 g3 d3 => q z e1 w G3 H3 p3 (s1.trans g3.eg) (R1.grow g3) d3⟩
end
end DL
namespace DL
open PySem PySem.Spec PyProof.Rows L2
/-! ### statements -/
structure DEnds where
  nx : DEnv → Prop
  rt : D → Prop
  bk : DEnv → Prop := fun _ => False
  ct : DEnv → Prop := fun _ => False
abbrev MS := DEnds → DEnv → Prop
structure EndsOk (K : PySem.W.Frag) (W : Wd) (B : Nat) (G0 H0 G : Hp) (E : DEnds) (D : Ends) : Prop where
  nx : ∀ env' σ' G' H', E.nx env' → Same G G' → Rel K W B G0 H0 G' env' σ' H' → D.nx σ' H'
  rt : ∀ x v G' H', E.rt x → Same G G' → RW W B G0 H0 G' H' → Dr K G' v x → D.rt v H'
  bk : ∀ env' σ' G' H', E.bk env' → Same G G' → Rel K W B G0 H0 G' env' σ' H' → D.bk σ' H'
  ct : ∀ env' σ' G' H', E.ct env' → Same G G' → Rel K W B G0 H0 G' env' σ' H' → D.ct σ' H'
theorem EndsOk.later {K : PySem.W.Frag} {W : Wd} {B : Nat} {G0 H0 G G' : Hp} {E : DEnds} {D : Ends} (h : EndsOk K W B G0 H0 G E D) (s : Same G G') : EndsOk K W B G0 H0 G' E D :=
  ⟨fun e σ g H p z => h.nx e σ g H p (s.trans z), fun x v g H p z => h.rt x v g H p (s.trans z), fun e σ g H p z => h.bk e σ g H p (s.trans z), fun e σ g H p z => h.ct e σ g H p (s.trans z)⟩
theorem EndsOk.more {K : PySem.W.Frag} {W : Wd} {B B' : Nat} {G0 H0 G : Hp} {E : DEnds} {D : Ends} (h : EndsOk K W B G0 H0 G E D) (l : B ≤ B') : EndsOk K W B' G0 H0 G E D :=
  ⟨fun e σ g H p z R => h.nx e σ g H p z (R.le l), fun x v g H p z R d => h.rt x v g H p z (R.le l) d, fun e σ g H p z R => h.bk e σ g H p z (R.le l), fun e σ g H p z R => h.ct e σ g H p z (R.le l)⟩
def tS (K : PySem.W.Frag) (n : Nat) (m : MS) : TS := fun D σ H => ∃ (W : Wd) (B : Nat) (G0 H0 G : Hp) (env : DEnv) (E : DEnds), Rel K W (B + n) G0 H0 G env σ H ∧ m E env ∧ EndsOk K W B G0 H0 G E D
abbrev GS (X : Cx) (st : Stmt) (n : Nat) (m : MS) : Prop := PS X st (tS X.K n m)
abbrev GSs (X : Cx) (st : List Stmt) (n : Nat) (m : MS) : Prop := PSs X st (tS X.K n m)
def sNext : MS := fun E env => E.nx env
def sSeq (a b : MS) : MS := fun E env => a { E with nx := b E } env
def sSet (i : Nat) (m : ME) : MS := fun E env => m env fun x e1 => E.nx (e1.set i (.d x))
def sSetF (i : Nat) (m : MF) : MS := fun E env => m env fun xs e1 => E.nx (e1.set i (.own xs))
def sRet (m : ME) : MS := fun E env => m env fun x _ => E.rt x
def sRetN : MS := fun E _ => E.rt .none
def sDrop (m : ME) : MS := fun E env => m env fun _ e1 => E.nx e1
def sIf (t : MT) (a b : MS) : MS := fun E env => t env fun k e1 => match k with
  | true => a E e1
  | false => b E e1
def sBreak : MS := fun E env => E.bk env
def sCont : MS := fun E env => E.ct env
/-- x.append(e), x an own list -/
def sApp (i : Nat) (m : ME) : MS := fun E env => (∃ xs, env[i]? = some (.own xs)) ∧ m env fun x e1 => match e1[i]? with
  | some (.own xs) => xs.length < sizeLine ∧ E.nx (e1.set i (.own (xs ++ [x])))
  | _ => False
section
variable {X : Cx} {a b c e o : Expr} {es : List Expr} {st : Stmt} {sts sts' : List Stmt} {pos p : Pos} {ma mb mc me : ME} {mt mu : MT} {m1 m2 : MA} {ms ms' : MS} {mf : MF} {na nb nc ne nt n1 n2 : Nat}
theorem gss_nil : GSs X [] 0 sNext := pss_imp pss_nil fun D σ H h => by
  obtain ⟨W, B, G0, H0, G, env, E, R, hm, q⟩ := h
  exact q.nx _ _ _ _ hm (Same.refl _) R
theorem gss_cons (h1 : GS X st n1 ms) (h2 : GSs X sts n2 ms') : GSs X (st :: sts) (n1 + n2) (sSeq ms ms') := pss_imp (pss_cons h1 h2) fun D σ H h => by
  obtain ⟨W, B, G0, H0, G, env, E, R, hm, q⟩ := h
  have q2 := q.more (Nat.le_add_right B n2)
  refine ⟨W, B + n2, G0, H0, G, env, _, R.le (by omega), hm, ⟨fun e σ g H p z R2 => ⟨W, B, G0, H0, g, e, E, R2, p, q.later z⟩, q2.rt, q2.bk, q2.ct⟩⟩
theorem gss_one (h1 : GS X st n1 ms) : GSs X [st] n1 ms := pss_one h1
theorem gs_never : GS X st 0 (fun _ _ => False) := pss_never_of where
  pss_never_of := ps_imp ps_never fun D σ H h => by
    obtain ⟨W, B, G0, H0, G, env, E, R, hm, q⟩ := h
    exact hm
theorem gs_pass : GS X (.Pass pos) 0 sNext := ps_imp ps_pass fun D σ H h => by
  obtain ⟨W, B, G0, H0, G, env, E, R, hm, q⟩ := h
  exact q.nx _ _ _ _ hm (Same.refl _) R
theorem gs_break : GS X (.Break pos) 0 sBreak := ps_imp ps_break fun D σ H h => by
  obtain ⟨W, B, G0, H0, G, env, E, R, hm, q⟩ := h
  exact q.bk _ _ _ _ hm (Same.refl _) R
theorem gs_cont : GS X (.Continue pos) 0 sCont := ps_imp ps_continue fun D σ H h => by
  obtain ⟨W, B, G0, H0, G, env, E, R, hm, q⟩ := h
  exact q.ct _ _ _ _ hm (Same.refl _) R
theorem gs_set {i : Nat} {x : Str} {pos' : Pos} (hN : X.N.Nodup) (hi : X.N[i]? = some x) (hx : Loc X.env.scope x) (he : GE X e ne me) (hs : swapsWith e (some (.Name x pos')) pos.line X.env = pure false := by rfl) (hf : X.fn x = true ∨ X.env.scope.names.lookup x = some .local := by first | exact .inl rfl | exact .inr rfl) :
    GS X (.Assign [.Name x pos'] e pos) ne (sSet i me) := ps_imp (ps_set hN hi hx he hs hf) fun D σ H h => by
  obtain ⟨W, B, G0, H0, G, env, E, R, hm, q⟩ := h
  refine ⟨W, B, G0, H0, G, env, _, R, hm, fun x e1 v G1 H1 p1 s1 R1 d1 => ?_⟩
  exact q.nx _ _ _ _ p1 s1 (R1.set_d d1)
theorem Rel.set_own {K : PySem.W.Frag} {W : Wd} {B : Nat} {G0 H0 G H : Hp} {env : DEnv} {σ : L2.St} {i : Nat} {p : Addr} {xs : List D} (r : Rel K W B G0 H0 G env σ H) (h : FreshAt K W H0 G env σ H p xs) : Rel K W B G0 H0 G (env.set i (.own xs)) (σ.set i (some (.ref p))) H := by
  obtain ⟨vs, hp, hg, h0, hm, hd, hq⟩ := h
  exact { r.toRW with
    len := by rw [List.length_set, List.length_set]; exact r.len
    slot := fun j e s h1 h2 => by
      by_cases z : i = j
      · subst z
        by_cases hl : i < env.length
        · rw [List.getElem?_set_self hl] at h1
          rw [List.getElem?_set_self (r.len ▸ hl)] at h2
          cases h1
          cases h2
          exact ⟨p, vs, rfl, hp, hg, h0, hm, hq⟩
        · rw [List.getElem?_eq_none (by rw [List.length_set]; omega)] at h1
          cases h1
      · rw [List.getElem?_set_ne z] at h1 h2
        exact r.slot j e s h1 h2
    dis := fun j k xi xj l ne h1 h2 h3 h4 => by
      have bd : ∀ {n : Nat} {y}, (env.set i (.own xs))[n]? = some y → n < env.length := fun {n y} h => by
        have := (List.getElem?_eq_some_iff.mp h).1
        rw [List.length_set] at this
        exact this
      have b1 := bd h1
      have b2 := bd h2
      by_cases z1 : i = j
      · subst z1
        rw [List.getElem?_set_self (r.len ▸ b1)] at h3
        cases h3
        rw [List.getElem?_set_ne ne] at h2 h4
        exact hd k _ xj h2 h4 rfl
      · rw [List.getElem?_set_ne z1] at h1 h3
        by_cases z2 : i = k
        · subst z2
          rw [List.getElem?_set_self (r.len ▸ b2)] at h4
          cases h4
          exact hd j _ xi h1 h3 rfl
        · rw [List.getElem?_set_ne z2] at h2 h4
          exact r.dis j k xi xj l ne h1 h2 h3 h4 }
theorem gs_setF {i : Nat} {x : Str} {pos' : Pos} (hN : X.N.Nodup) (hi : X.N[i]? = some x) (hx : Loc X.env.scope x) (he : GF X e ne mf) (hs : swapsWith e (some (.Name x pos')) pos.line X.env = pure false := by rfl) (hf : X.fn x = true ∨ X.env.scope.names.lookup x = some .local := by first | exact .inl rfl | exact .inr rfl) :
    GS X (.Assign [.Name x pos'] e pos) ne (sSetF i mf) := ps_imp (ps_set hN hi hx he hs hf) fun D σ H h => by
  obtain ⟨W, B, G0, H0, G, env, E, R, hm, q⟩ := h
  refine ⟨W, B, G0, H0, G, env, _, R, hm, fun xs e1 p G1 H1 p1 s1 R1 d1 => ?_⟩
  exact q.nx _ _ _ _ p1 s1 (R1.set_own d1)
theorem gs_ret (he : GE X e ne me) : GS X (.Return (some e) pos) ne (sRet me) := ps_imp (ps_ret he) fun D σ H h => by
  obtain ⟨W, B, G0, H0, G, env, E, R, hm, q⟩ := h
  exact ⟨W, B, G0, H0, G, env, _, R, hm, fun x e1 v G1 H1 p1 s1 R1 d1 => q.rt _ _ _ _ p1 s1 R1.toRW d1⟩
theorem gs_retN : GS X (.Return none pos) 0 sRetN := ps_imp ps_retN fun D σ H h => by
  obtain ⟨W, B, G0, H0, G, env, E, R, hm, q⟩ := h
  exact q.rt _ _ _ _ hm (Same.refl _) R.toRW .non
theorem gs_expr (he : GE X e ne me) (hs : swapsWith e none pos.line X.env = pure false := by rfl) : GS X (.Expr e pos) ne (sDrop me) := ps_imp (ps_expr he hs) fun D σ H h => by
  obtain ⟨W, B, G0, H0, G, env, E, R, hm, q⟩ := h
  exact ⟨W, B, G0, H0, G, env, _, R, hm, fun x e1 v G1 H1 p1 s1 R1 d1 => q.nx _ _ _ _ p1 s1 R1⟩
theorem gs_if (hc : GT X c nt mt) (ha : GSs X sts n1 ms) (hb : GSs X sts' n2 ms') : GS X (.If c sts sts' pos) (nt + (n1 + n2)) (sIf mt ms ms') := ps_imp (ps_if hc ha hb) fun D σ H h => by
  obtain ⟨W, B, G0, H0, G, env, E, R, hm, q⟩ := h
  refine ⟨W, B + (n1 + n2), G0, H0, G, env, _, R.le (by omega), hm, fun k e1 G1 H1 p1 s1 R1 => ?_⟩
  cases k with
  | true => exact iteT ⟨W, B + n2, G0, H0, G1, e1, E, R1.le (by omega), p1, (q.more (by omega)).later s1⟩
  | false => exact iteF ⟨W, B + n1, G0, H0, G1, e1, E, R1.le (by omega), p1, (q.more (by omega)).later s1⟩
/-- an own list is written -/
theorem Rel.write {K : PySem.W.Frag} {W : Wd} {B : Nat} {G0 H0 G H : Hp} {env : DEnv} {σ : L2.St} {i : Nat} {l : Addr} {vs us : List V} {xs ys : List D} (r : Rel K W B G0 H0 G env σ H) (h : env[i]? = some (.own xs)) (hs : σ[i]? = some (some (.ref l))) (hl : H l = some (.lst vs)) (hg : G l = none) (h0 : H0 l = none) (hm : ¬ W.mu l) (hq : DrAll K G us ys) :
    Rel K W B G0 H0 G (env.set i (.own ys)) σ (upd H l (.lst us)) := by
  have hil : i < env.length := (List.getElem?_eq_some_iff.mp h).1
  refine { g0 := r.g0, pub := fun a o e => ?_, gm := r.gm, inv := W.loc _ H _ (fun a m => ?_) r.inv, fr := fun a o e m => ?_, pn := r.pn, len := by rw [List.length_set]; exact r.len, slot := fun j e s h1 h2 => ?_, dis := fun j k xi xj l' ne h1 h2 h3 => ?_ }
  · have ne : a ≠ l := fun z => by
      subst z
      rw [hg] at e
      cases e
    rw [upd_ne ne]
    exact r.pub a o e
  · have ne : a ≠ l := fun z => by
      subst z
      exact hm m
    rw [upd_ne ne]
  · have ne : a ≠ l := fun z => by
      subst z
      rw [h0] at e
      cases e
    rw [upd_ne ne]
    exact r.fr a o e m
  · by_cases z : i = j
    · subst z
      rw [List.getElem?_set_self hil] at h1
      cases h1
      rw [hs] at h2
      cases h2
      exact ⟨l, us, rfl, upd_same, hg, h0, hm, hq⟩
    · rw [List.getElem?_set_ne z] at h1
      have q := r.slot j e s h1 h2
      cases e with
      | un => trivial
      | d x => exact q
      | own zs =>
        obtain ⟨l2, us2, e1, hl2, n2, z0, m2, q1⟩ := q
        have ne : l2 ≠ l := fun w => by
          subst w
          subst e1
          exact r.dis i j xs zs l2 z h h1 hs h2
        refine ⟨l2, us2, e1, ?_, n2, z0, m2, q1⟩
        rw [upd_ne ne]
        exact hl2
      | hd => exact q
  · have f : ∀ {n : Nat} {ws}, (env.set i (.own ys))[n]? = some (.own ws) → ∃ ws', env[n]? = some (.own ws') := fun {n ws} hh => by
      by_cases z : i = n
      · subst z
        exact ⟨xs, h⟩
      · rw [List.getElem?_set_ne z] at hh
        exact ⟨ws, hh⟩
    obtain ⟨w1, g1⟩ := f h1
    obtain ⟨w2, g2⟩ := f h2
    exact r.dis j k w1 w2 l' ne g1 g2 h3
theorem gs_append {i : Nat} {x : Str} {px apos cpos : Pos} (hN : X.N[i]? = some x) (hv : Vis X.env.scope x) (he : GE X e ne me) (hd : (x == ("__debug__" : Str)) = false := by decide)
    (hcd : (x == ("__classdict__" : Str)) = false := by decide) (hbase : attributeBase (.Name x px) "append" X.env (eval (.Name x px) X.env) = eval (.Name x px) X.env := by rfl)
    (hfew : ((backTo cpos (starEach [e] X.env)).all (fun x => !x.1) && (backToKw cpos (keywordEach [] X.env)).all (fun x => x.1.isSome)
      && decide ([e].length + ([] : List Keyword).length + (if ([] : List Keyword).isEmpty then 0 else 1) < 30)) = true := by rfl)
    (hline : (apos.endLine == cpos.line) = true := by rfl) (hs : starEach [e] X.env = (false, eval e X.env) :: starEach [] X.env := by rfl) (hplain : (backTo cpos (starEach ([] : List Expr) X.env)).any (·.1) = false := by rfl)
    (hsw : swapsWith (.Call (.Attribute (.Name x px) "append" apos) [e] [] cpos) none pos.line X.env = pure false := by rfl) :
    GS X (.Expr (.Call (.Attribute (.Name x px) "append" apos) [e] [] cpos) pos) ne (sApp i me) :=
  ps_imp (ps_expr (pe_bm PySem.F.plainAttrs_list PySem.F.slot_list_append PySem.F.type_list_append mt_append (pe_var hN hv hd hcd) (pa_cons he pa_nil hs) hbase hfew hline hs hplain) hsw) fun D σ H h => by
  obtain ⟨W, B, G0, H0, G, env, E, R, ⟨⟨xs, hx⟩, hm⟩, q⟩ := h
  obtain ⟨l, vs, e1, hl, hg, h0, hmu, hq⟩ := R.get_own hx
  refine ⟨_, e1, .inl ⟨rfl, vs, SqL.of hl⟩, W, B, G0, H0, G, env, _, R, hm, fun y e2 v G2 H2 p2 s2 R2 d2 => ?_⟩
  split at p2
  · rename_i ys hy
    obtain ⟨l2, us, f1, hl2, hg2, h02, hmu2, hq2⟩ := R2.get_own hy
    rw [e1] at f1
    cases f1
    refine ⟨l, us, v, rfl, rfl, hl2, by rw [dpAll_len hq2]; exact p2.1, ?_⟩
    exact q.nx _ _ _ _ p2.2 s2 (R2.write hy e1 hl2 hg2 h02 hmu2 (dpAll_app hq2 (dpAll_one d2)))
  · exact p2.elim
end
end DL
namespace DL
open PySem PySem.Spec PyProof.Rows L2
/-! ### slots forgotten (a comprehension's own) -/
def wipeE (env : DEnv) : List Nat → DEnv
  | [] => env
  | v :: vs => (wipeE env vs).set v .un
theorem wipeE_length (env : DEnv) : ∀ vs : List Nat, (wipeE env vs).length = env.length
  | [] => rfl
  | v :: vs => by unfold wipeE; rw [List.length_set, wipeE_length env vs]
theorem wipeE_out {env : DEnv} {i : Nat} : ∀ {vs : List Nat}, i ∉ vs → (wipeE env vs)[i]? = env[i]?
  | [], _ => rfl
  | v :: vs, h => by
    unfold wipeE
    rw [List.getElem?_set_ne (fun e => h (by rw [e]; exact List.mem_cons_self))]
    exact wipeE_out fun z => h (List.mem_cons_of_mem _ z)
theorem wipeE_in {env : DEnv} {i : Nat} {e : EV} : ∀ {vs : List Nat}, i ∈ vs → (wipeE env vs)[i]? = some e → e = .un
  | [], h, _ => by cases h
  | v :: vs, h, q => by
    unfold wipeE at q
    by_cases z : v = i
    · subst z
      by_cases hv : v < (wipeE env vs).length
      · rw [List.getElem?_set_self hv] at q
        cases q
        rfl
      · rw [List.getElem?_eq_none (by rw [List.length_set]; omega)] at q
        cases q
    · rw [List.getElem?_set_ne z] at q
      rcases List.mem_cons.mp h with h | h
      · exact absurd h.symm z
      · exact wipeE_in h q
theorem wipe_out' {σ : L2.St} {i : Nat} : ∀ {vs : List Nat}, i ∉ vs → (wipe σ vs)[i]? = σ[i]?
  | [], _ => rfl
  | v :: vs, h => by
    unfold wipe
    rw [List.getElem?_set_ne (fun e => h (by rw [e]; exact List.mem_cons_self))]
    exact wipe_out' fun z => h (List.mem_cons_of_mem _ z)
theorem wipe_set {σ : L2.St} {i : Nat} {s : Option V} : ∀ {vs : List Nat}, i ∈ vs → wipe (σ.set i s) vs = wipe σ vs
  | [], h => by cases h
  | v :: vs, h => by
    unfold wipe
    by_cases z : i ∈ vs
    · rw [wipe_set z]
    · have e : v = i := by
        rcases List.mem_cons.mp h with h | h
        · exact h.symm
        · exact absurd h z
      subst e
      have : ∀ (τ : L2.St) (ws : List Nat), v ∉ ws → wipe (τ.set v s) ws = (wipe τ ws).set v s := fun τ ws => by
        induction ws with
        | nil => exact fun _ => rfl
        | cons w ws ih =>
          intro hw
          unfold wipe
          rw [ih fun q => hw (List.mem_cons_of_mem _ q)]
          exact (List.set_comm _ _ (fun q => hw (by rw [q]; exact List.mem_cons_self)))
      rw [this σ vs z, List.set_set]
theorem wipeE_set {env : DEnv} {i : Nat} {s : EV} : ∀ {vs : List Nat}, i ∈ vs → wipeE (env.set i s) vs = wipeE env vs
  | [], h => by cases h
  | v :: vs, h => by
    unfold wipeE
    by_cases z : i ∈ vs
    · rw [wipeE_set z]
    · have e : v = i := by
        rcases List.mem_cons.mp h with h | h
        · exact h.symm
        · exact absurd h z
      subst e
      have : ∀ (τ : DEnv) (ws : List Nat), v ∉ ws → wipeE (τ.set v s) ws = (wipeE τ ws).set v s := fun τ ws => by
        induction ws with
        | nil => exact fun _ => rfl
        | cons w ws ih =>
          intro hw
          unfold wipeE
          rw [ih fun q => hw (List.mem_cons_of_mem _ q)]
          exact (List.set_comm _ _ (fun q => hw (by rw [q]; exact List.mem_cons_self)))
      rw [this env vs z, List.set_set]
section
variable {K : PySem.W.Frag} {W : Wd} {B : Nat} {G0 H0 G H G' H' : Hp} {env : DEnv} {σ : L2.St}
theorem Rel.wipe (r : Rel K W B G0 H0 G env σ H) (vs : List Nat) : Rel K W B G0 H0 G (wipeE env vs) (L2.wipe σ vs) H :=
  { r.toRW with
    len := by rw [wipeE_length, L2.wipe_length]; exact r.len
    slot := fun i e s h1 h2 => by
      by_cases z : i ∈ vs
      · rw [wipeE_in z h1]
        trivial
      · rw [wipeE_out z] at h1
        rw [wipe_out' z] at h2
        exact r.slot i e s h1 h2
    dis := fun i j xi xj l ne h1 h2 h3 h4 => by
      have f : ∀ {n : Nat} {ws}, (wipeE env vs)[n]? = some (.own ws) → n ∉ vs := fun {n ws} h z => by cases wipeE_in z h
      have z1 := f h1
      have z2 := f h2
      rw [wipeE_out z1] at h1
      rw [wipeE_out z2] at h2
      rw [wipe_out' z1] at h3
      rw [wipe_out' z2] at h4
      exact r.dis i j xi xj l ne h1 h2 h3 h4 }
def noOwn (env : DEnv) (vs : List Nat) : Prop := ∀ i ∈ vs, ∀ xs, env[i]? ≠ some (.own xs)
theorem Rel.unwipe {vs : List Nat} {B' : Nat} (r : Rel K W B G0 H0 G env σ H) (n : noOwn env vs) (s : Same G G') (q : Rel K W B' G0 H0 G' (wipeE env vs) (L2.wipe σ vs) H') : Rel K W B' G0 H0 G' env σ H' :=
  { q.toRW with
    len := r.len
    slot := fun i e s' h1 h2 => by
      by_cases z : i ∈ vs
      · have h := r.slot i e s' h1 h2
        cases e with
        | un => trivial
        | d x =>
          obtain ⟨v, e1, q1⟩ := h
          exact ⟨v, e1, dp_same s q1⟩
        | own xs => exact absurd h1 (n i z xs)
        | hd => exact h
      · exact q.slot i e s' (by rw [wipeE_out z]; exact h1) (by rw [wipe_out' z]; exact h2)
    dis := r.dis }
theorem Rel.guard {D : Addr} {o : HO} (r : Rel K W B G0 H0 G env σ H) (hD : H D = some o) (hg : G D = none) (ho : ∀ (i : Nat) l ys, env[i]? = some (.own ys) → σ[i]? = some (some (.ref l)) → l ≠ D) : Rel K W B G0 (upd H0 D o) G env σ H :=
  { r.toRW with
    fr := fun a u h m => by
      by_cases z : a = D
      · subst z
        rw [upd_same] at h
        cases h
        exact hD
      · rw [upd_ne z] at h
        exact r.fr a u h m
    pn := fun a u h h0 => by
      have z : a ≠ D := fun z => by
        subst z
        rw [hg] at h
        cases h
      rw [upd_ne z]
      exact r.pn a u h h0
    len := r.len
    slot := fun i e s h1 h2 => by
      have h := r.slot i e s h1 h2
      cases e with
      | own xs =>
        obtain ⟨l, vs, e1, hl, n, h0, m, q⟩ := h
        refine ⟨l, vs, e1, hl, n, ?_, m, q⟩
        subst e1
        rw [upd_ne (ho i l xs h1 h2)]
        exact h0
      | un => trivial
      | d x => exact h
      | hd => exact h
    dis := r.dis }
theorem Rel.unguard {D : Addr} {o : HO} (r : Rel K W B G0 (upd H0 D o) G env σ H) (hm : ¬ W.mu D) (hg0 : G0 D = none) (h0 : H0 D = none) :
    Rel K W B G0 H0 G env σ H ∧ H D = some o ∧ G D = none ∧ ∀ (i : Nat) l ys, env[i]? = some (.own ys) → σ[i]? = some (some (.ref l)) → l ≠ D := by
  have up : ∀ a u, H0 a = some u → upd H0 D o a = some u := fun a u h => by
    have z : a ≠ D := fun z => by
      subst z
      rw [h0] at h
      cases h
    rw [upd_ne z]
    exact h
  have dn : ∀ a, upd H0 D o a = none → H0 a = none := fun a h => by
    cases z : H0 a with
    | none => rfl
    | some u =>
      rw [up a u z] at h
      cases h
  refine ⟨{ r.toRW with
    fr := fun a u h m => r.fr a u (up a u h) m
    pn := fun a u h h0 => dn a (r.pn a u h h0)
    len := r.len
    slot := fun i e s h1 h2 => ?_
    dis := r.dis }, r.fr D o upd_same hm, ?_, fun i l ys h1 h2 z => ?_⟩
  · have h := r.slot i e s h1 h2
    cases e with
    | own xs =>
      obtain ⟨l, vs, e1, hl, n, h0, m, q⟩ := h
      exact ⟨l, vs, e1, hl, n, dn l h0, m, q⟩
    | un => trivial
    | d x => exact h
    | hd => exact h
  · cases z : G D with
    | none => rfl
    | some u =>
      have := r.pn D u z hg0
      rw [upd_same] at this
      cases this
  · obtain ⟨l2, vs, e2, _, _, h02, _⟩ := r.get_own h1
    rw [h2] at e2
    cases e2
    rw [z, upd_same] at h02
    cases h02
end
/-! ### targets -/
abbrev MG := D → DEnv → (DEnv → Prop) → Prop
def tG (K : PySem.W.Frag) (vs : List Nat) (m : MG) : TG := fun v σ H Q => ∃ (W : Wd) (B : Nat) (G0 H0 G : Hp) (env : DEnv) (x : D) (P : DEnv → Prop), Rel K W B G0 H0 G env σ H ∧ Dr K G v x ∧ m x env P ∧
  ∀ env' σ', P env' → Rel K W B G0 H0 G env' σ' H → wipe σ' vs = wipe σ vs → wipeE env' vs = wipeE env vs → Q σ' H
abbrev GG (X : Cx) (e : Expr) (vs : List Nat) (m : MG) : Prop := PG X e (tG X.K vs m)
theorem pg_imp {X : Cx} {e : Expr} {t t' : TG} (h : PG X e t) (q : ∀ v σ H Q, t' v σ H Q → t v σ H Q) : PG X e t' :=
  ⟨fun pins s σ H v u Q I r z => h.run pins s σ H v u Q I r (q v σ H Q z)⟩
def gNm (i : Nat) : MG := fun x env P => P (env.set i (.d x))
abbrev MGs := List D → DEnv → (DEnv → Prop) → Prop
def gsNil : MGs := fun xs env P => xs = [] ∧ P env
def gsCons (i : Nat) (r : MGs) : MGs := fun xs env P => match xs with
  | x :: ys => r ys (env.set i (.d x)) P
  | [] => False
def gTp (n : Nat) (m : MGs) : MG := fun x env P => match x with
  | .tuple xs => xs.length = n ∧ m xs env P
  | _ => False
def tGs (K : PySem.W.Frag) (vs : List Nat) (m : MGs) : TGs := fun us σ H Q => ∃ (W : Wd) (B : Nat) (G0 H0 G : Hp) (env : DEnv) (xs : List D) (P : DEnv → Prop), Rel K W B G0 H0 G env σ H ∧ DrAll K G us xs ∧ m xs env P ∧
  ∀ env' σ', P env' → Rel K W B G0 H0 G env' σ' H → wipe σ' vs = wipe σ vs → wipeE env' vs = wipeE env vs → Q σ' H
section
variable {X : Cx} {e : Expr} {es : List Expr} {pos : Pos} {vs : List Nat}
theorem gg_name {i : Nat} {x : Str} (hN : X.N.Nodup) (hi : X.N[i]? = some x) (hx : Loc X.env.scope x) (hv : i ∈ vs) (hf : X.fn x = true ∨ X.env.scope.names.lookup x = some .local := by first | exact .inl rfl | exact .inr rfl | assumption) : GG X (.Name x pos) vs (gNm i) :=
  pg_imp (pg_name hN hi hx hf) fun v σ H Q h => by
  obtain ⟨W, B, G0, H0, G, env, x, P, R, d, hm, q⟩ := h
  exact q _ _ hm (R.set_d d) (wipe_set hv) (wipeE_set hv)
theorem ggs_nil : PGs X [] (tGs X.K vs gsNil) := ⟨fun pins s σ H us ws Q I r h => by
  refine pgs_nil.run pins s σ H us ws Q I r ?_
  obtain ⟨W, B, G0, H0, G, env, xs, P, R, d, hm, q⟩ := h
  obtain ⟨e1, hm⟩ := hm
  subst e1
  cases d
  exact ⟨rfl, q _ _ hm R rfl rfl⟩⟩
theorem ggs_cons {i : Nat} {x : Str} {m : MGs} (hN : X.N.Nodup) (hi : X.N[i]? = some x) (hx : Loc X.env.scope x) (hv : i ∈ vs) (hr : PGs X es (tGs X.K vs m)) (hf : X.fn x = true ∨ X.env.scope.names.lookup x = some .local := by first | exact .inl rfl | exact .inr rfl | assumption)
    (hs : (assignEach (.Name x pos :: es) X.env).map (·.2) = assign (.Name x pos) X.env :: (assignEach es X.env).map (·.2) := by rfl) : PGs X (.Name x pos :: es) (tGs X.K vs (gsCons i m)) := ⟨fun pins s σ H us ws Q I r h => by
  refine (pgs_cons (pg_name hN hi hx hf) hr hs).run pins s σ H us ws Q I r ?_
  obtain ⟨W, B, G0, H0, G, env, xs, P, R, d, hm, q⟩ := h
  cases d with
  | nil => exact hm.elim
  | cons d1 d2 =>
    refine ⟨_, _, rfl, W, B, G0, H0, G, _, _, P, R.set_d d1, d2, hm, fun e2 σ2 p2 R2 w2 w3 => ?_⟩
    exact q _ _ p2 R2 (w2.trans (wipe_set hv)) (w3.trans (wipeE_set hv))⟩
theorem gg_tup {k : Nat} {m : MGs} {n : Nat} (hc : X.calm = true) (h : PGs X es (tGs X.K vs m))
    (hn : (assignEach es X.env).length = n := by rfl) (hst : (assignEach es X.env).findIdx? (·.1) = none := by rfl) : GG X (.Tuple es k pos) vs (gTp n m) :=
  pg_imp (pg_tup hc h hn hst) fun v σ H Q h => by
  obtain ⟨W, B, G0, H0, G, env, x, P, R, d, hm, q⟩ := h
  cases x with
  | tuple xs =>
    obtain ⟨a, us, rfl, h1, h2⟩ := dp_tup d
    exact ⟨a, us, rfl, same_sqT R.pub h1, by rw [dpAll_len h2]; exact hm.1, W, B, G0, H0, G, env, xs, P, R, h2, hm.2, q⟩
  | _ => exact hm.elim
end
/-! ### what is walked -/
def ItD (K : PySem.W.Frag) (G : Hp) (J : It) (ds : List D) : Prop := ∀ G1 H1, Same G G1 → Same G1 H1 → ∀ i : Nat,
  (∀ x, ds[i]? = some x → J.go i H1 ∧ ∀ v H2, J.yld i H1 v H2 → ∃ G2, Grow G1 H1 G2 H2 ∧ Dr K G2 v x) ∧ (ds.length ≤ i → J.stop i H1)
theorem ItD.later {K : PySem.W.Frag} {G G' : Hp} {J : It} {ds : List D} (h : ItD K G J ds) (s : Same G G') : ItD K G' J ds := fun G1 H1 a b => h G1 H1 (s.trans a) b
abbrev MI := DEnv → (List D → DEnv → Prop) → Prop
def tI (K : PySem.W.Frag) (n : Nat) (m : MI) : TI := fun σ H R => ∃ (W : Wd) (B : Nat) (G0 H0 G : Hp) (env : DEnv) (P : List D → DEnv → Prop), Rel K W (B + n) G0 H0 G env σ H ∧ m env P ∧
  ∀ ds env' J G' H', P ds env' → Same G G' → Rel K W B G0 H0 G' env' σ H' → ItD K G' J ds → R J H'
abbrev GI (X : Cx) (tg iter : Expr) (n : Nat) (m : MI) : Prop := PI X tg iter (tI X.K n m)
theorem pi_imp {X : Cx} {tg iter : Expr} {t t' : TI} (h : PI X tg iter t) (q : ∀ σ H R, t' σ H R → t σ H R) : PI X tg iter t' := ⟨fun pins s σ H R I z => h.run pins s σ H R I (q σ H R z)⟩
theorem itd_list {K : PySem.W.Frag} {G : Hp} {a : Addr} {us : List V} {ds : List D} (h1 : G a = some (.lst us)) (h2 : DrAll K G us ds) : ItD K G (Itl K a) ds := fun G1 H1 s1 s2 i => by
  have q : SqL K H1 a us := SqL.of ((s1.trans s2) _ _ h1)
  refine ⟨fun x hx => ?_, fun hl => ?_⟩
  · obtain ⟨v, e, d⟩ := dpAll_get h2 hx
    refine ⟨⟨us, v, q, e⟩, fun w H2 y => ?_⟩
    obtain ⟨e2, y⟩ := y
    subst e2
    have := y us q
    rw [e] at this
    cases this
    exact ⟨G1, Grow.refl s2, dp_same s1 d⟩
  · exact ⟨us, q, by rw [dpAll_len h2]; exact hl⟩
theorem itd_tup {K : PySem.W.Frag} {G : Hp} {a : Addr} {us : List V} {ds : List D} (h1 : SqT K G a us) (h2 : DrAll K G us ds) : ItD K G (Itt K a) ds := fun G1 H1 s1 s2 i => by
  have q := same_sqT (s1.trans s2) h1
  refine ⟨fun x hx => ?_, fun hl => ?_⟩
  · obtain ⟨v, e, d⟩ := dpAll_get h2 hx
    refine ⟨⟨us, v, q, e⟩, fun w H2 y => ?_⟩
    obtain ⟨e2, y⟩ := y
    subst e2
    have := y us q
    rw [e] at this
    cases this
    exact ⟨G1, Grow.refl s2, dp_same s1 d⟩
  · exact ⟨us, q, by rw [dpAll_len h2]; exact hl⟩
def rangeD (lo : Int) (n : Nat) : List D := (List.range n).map fun (i : Nat) => .int (lo + (i : Int))
theorem itd_range {K : PySem.W.Frag} {G : Hp} {lo : Int} {n : Nat} : ItD K G (Itr lo n) (rangeD lo n) := fun G1 H1 s1 s2 i => by
  refine ⟨fun x hx => ?_, fun hl => ?_⟩
  · simp only [rangeD, List.getElem?_map, Option.map_eq_some_iff] at hx
    obtain ⟨j, hj, rfl⟩ := hx
    have hj2 := List.getElem?_eq_some_iff.mp hj
    obtain ⟨h1, h2⟩ := hj2
    rw [List.getElem_range] at h2
    subst h2
    rw [List.length_range] at h1
    refine ⟨h1, fun v H2 y => ?_⟩
    obtain ⟨e2, y⟩ := y
    subst e2 y
    exact ⟨G1, Grow.refl s2, .int _⟩
  · simp only [rangeD, List.length_map, List.length_range] at hl
    exact hl
/-- a list, a tuple -/
def miSeq (m : ME) : MI := fun env P => m env fun x e1 => match x with
  | .list xs => P xs e1
  | _ => False
def miTup (m : ME) : MI := fun env P => m env fun x e1 => match x with
  | .tuple xs => P xs e1
  | _ => False
def strD (z : Str) : List D := z.cps.toList.map fun c => .str ⟨#[c]⟩
def miStr (m : ME) : MI := fun env P => m env fun x e1 => match x with
  | .str z => P (strD z) e1
  | _ => False
def miRng1 (a : MA) : MI := fun env P => a env fun as e1 => match as with
  | [.d (.int j)] => -(2 ^ 62) ≤ j ∧ j < 2 ^ 62 ∧ P (rangeD 0 j.toNat) e1
  | _ => False
def miRng2 (a : MA) : MI := fun env P => a env fun as e1 => match as with
  | [.d (.int i), .d (.int j)] => (-(2 ^ 62) ≤ i ∧ i < 2 ^ 62 ∧ -(2 ^ 62) ≤ j ∧ j < 2 ^ 62) ∧ P (rangeD i (j - i).toNat) e1
  | _ => False
section
variable {X : Cx} {tg l a b : Expr} {p pos : Pos} {me : ME} {m1 : MA} {ne n1 : Nat}
theorem gi_list (hl : GE X l ne me) : GI X tg l ne (miSeq me) := pi_imp (pi_list hl) fun σ H R h => by
  obtain ⟨W, B, G0, H0, G, env, P, R, hm, q⟩ := h
  refine ⟨W, B, G0, H0, G, env, _, R, hm, fun x e1 v G1 H1 p1 s1 R1 d1 => ?_⟩
  cases x with
  | list xs =>
    obtain ⟨a, us, rfl, h1, h2⟩ := dp_lst d1
    exact ⟨a, rfl, ⟨us, SqL.of (R1.pub _ _ h1)⟩, q _ _ _ _ _ p1 s1 R1 (itd_list h1 h2)⟩
  | _ => exact p1.elim
theorem gi_tup (hl : GE X l ne me) : GI X tg l ne (miTup me) := pi_imp (pi_tup hl) fun σ H R h => by
  obtain ⟨W, B, G0, H0, G, env, P, R, hm, q⟩ := h
  refine ⟨W, B, G0, H0, G, env, _, R, hm, fun x e1 v G1 H1 p1 s1 R1 d1 => ?_⟩
  cases x with
  | tuple xs =>
    obtain ⟨a, us, rfl, h1, h2⟩ := dp_tup d1
    exact ⟨a, rfl, ⟨us, same_sqT R1.pub h1⟩, q _ _ _ _ _ p1 s1 R1 (itd_tup h1 h2)⟩
  | _ => exact p1.elim
theorem gi_str (hl : GE X l ne me) : GI X tg l ne (miStr me) := pi_imp (pi_str hl) fun σ H R h => by
  obtain ⟨W, B, G0, H0, G, env, P, R, hm, q⟩ := h
  refine ⟨W, B, G0, H0, G, env, _, R, hm, fun x e1 v G1 H1 p1 s1 R1 d1 => ?_⟩
  cases x with
  | str z =>
    cases dp_str d1
    refine ⟨z, rfl, q _ _ _ _ _ p1 s1 R1 fun G2 H2 t1 t2 i => ⟨fun x hx => ?_, fun hl => ?_⟩⟩
    · simp only [strD, List.getElem?_map, Option.map_eq_some_iff] at hx
      obtain ⟨c, hc, rfl⟩ := hx
      have hc' : z.cps[i]? = some c := by rw [← hc, Array.getElem?_toList]
      refine ⟨?_, fun v H3 y => ?_⟩
      · obtain ⟨h1, _⟩ := Array.getElem?_eq_some_iff.mp hc'
        exact h1
      · obtain ⟨e2, c', e3, y⟩ := y
        subst e2
        rw [hc'] at e3
        cases e3
        subst y
        exact ⟨G2, Grow.refl t2, .str _⟩
    · simp only [strD, List.length_map, Array.length_toList] at hl
      exact hl
  | _ => exact p1.elim
theorem gi_range1 (hg : Gl X "range") (hm : X.mg "range" = none) (ha : GA X [a] n1 m1) (hs : starEach [a] X.env = [(false, eval a X.env)] := by rfl) : GI X tg (.Call (.Name "range" p) [a] [] pos) n1 (miRng1 m1) := pi_imp (pi_range1 hg hm ha hs) fun σ H R h => by
  obtain ⟨W, B, G0, H0, G, env, P, R, hm, q⟩ := h
  refine ⟨W, B, G0, H0, G, env, _, R, hm, fun as e1 vs G1 H1 p1 s1 R1 a1 => ?_⟩
  split at p1
  · cases a1 with
    | cons x y =>
      cases y
      cases dp_int x
      exact ⟨_, rfl, p1.1, p1.2.1, q _ _ _ _ _ p1.2.2 s1 R1 itd_range⟩
  · exact p1.elim
theorem gi_range2 (hg : Gl X "range") (hm : X.mg "range" = none) (ha : GA X [a, b] n1 m1) (hs : starEach [a, b] X.env = [(false, eval a X.env), (false, eval b X.env)] := by rfl) (hs2 : starEach [b] X.env = [(false, eval b X.env)] := by rfl) : GI X tg (.Call (.Name "range" p) [a, b] [] pos) n1 (miRng2 m1) := pi_imp (pi_range2 hg hm ha hs hs2) fun σ H R h => by
  obtain ⟨W, B, G0, H0, G, env, P, R, hm, q⟩ := h
  refine ⟨W, B, G0, H0, G, env, _, R, hm, fun as e1 vs G1 H1 p1 s1 R1 a1 => ?_⟩
  split at p1
  · cases a1 with
    | cons x y =>
      cases y with
      | cons y z =>
        cases z
        cases dp_int x
        cases dp_int y
        exact ⟨_, _, rfl, p1.1, q _ _ _ _ _ p1.2 s1 R1 itd_range⟩
  · exact p1.elim
end
end DL
namespace DL
open PySem PySem.Spec PyProof.Rows L2
/-! ### for -/
def sForL (g : MG) (b : MS) : List D → DEnds → DEnv → Prop
  | [], E, env => E.nx env
  | x :: xs, E, env => g x env fun e1 => b { nx := sForL g b xs E, rt := E.rt, bk := E.nx, ct := sForL g b xs E } e1
/-- nb: what a turn may draw at most, c: all turns together -/
def sForC (nb c : Nat) (i : MI) (g : MG) (b : MS) : MS := fun E env => i env fun ds e1 => ds.length * nb ≤ c ∧ sForL g b ds E e1
def sFor (i : MI) (g : MG) (b : MS) : MS := fun E env => i env fun ds e1 => sForL g b ds E e1
theorem turn_cost {n i nb : Nat} (h : i < n) : (n - i) * nb = (n - (i + 1)) * nb + nb := by
  have e : n - i = (n - (i + 1)) + 1 := by omega
  rw [e, Nat.add_mul, Nat.one_mul]
section
variable {X : Cx} {tg iter : Expr} {body : List Stmt} {mi : MI} {mg : MG} {ms : MS} {pos : Pos} {vs : List Nat} {ni nb : Nat}
theorem gs_forC (c : Nat) (hp : PassesOwn (model X.prog X.w) X.A X.env X.xe) (hc : X.calm = true) (hi : GI X tg iter ni mi) (hg : GG X tg vs mg) (hb : GSs X body nb ms)
    (hs : ∀ x, foldedSetIterable iter X.env x = pure x := by intro _; rfl) : GS X (.For tg iter body [] pos) (ni + c) (sForC nb c mi mg ms) := ps_imp (ps_for hp hc hi hg hb hs) fun D σ H h => by
  obtain ⟨W, B, G0, H0, G, env, E, R, hm, q⟩ := h
  refine ⟨W, B + c, G0, H0, G, env, _, R.le (by omega), hm, fun ds e1 J G1 H1 p1 s1 R1 it => ?_⟩
  obtain ⟨cost, p1⟩ := p1
  refine ⟨fun i m σ' H' => m = ds.length - i ∧ i ≤ ds.length ∧ ∃ G' e', Same G1 G' ∧ Rel X.K W (B + (ds.length - i) * nb) G0 H0 G' e' σ' H' ∧ sForL mg ms (ds.drop i) E e', ⟨ds.length, rfl, Nat.zero_le _, G1, e1, Same.refl _, R1.le (by rw [Nat.sub_zero]; omega), p1⟩, ?_⟩
  rintro i m σ' H' ⟨rfl, hi, G', e', s', R', p'⟩
  by_cases hlt : i < ds.length
  · have hx : ds[i]? = some ds[i] := List.getElem?_eq_getElem hlt
    have hd : ds.drop i = ds[i] :: ds.drop (i + 1) := List.drop_eq_getElem_cons hlt
    obtain ⟨hgo, hy⟩ := (it G' H' s' R'.pub i).1 _ hx
    rw [hd] at p'
    rw [turn_cost hlt] at R'
    refine .inr ⟨hgo, fun σ2 H2 => ∃ G2 e2, Same G1 G2 ∧ Rel X.K W (B + (ds.length - (i + 1)) * nb) G0 H0 G2 e2 σ2 H2 ∧ sForL mg ms (ds.drop (i + 1)) E e2, fun σ2 H2 hN => ⟨ds.length - (i + 1), by omega, rfl, hlt, hN⟩, fun v H2 y => ?_⟩
    obtain ⟨G2, g2, d2⟩ := hy v H2 y
    refine ⟨W, _, G0, H0, G2, e', _, _, R'.grow g2, d2, p', fun e3 σ3 p3 R3 _ _ => ?_⟩
    have sG : Same G G2 := (s1.trans s').trans g2.eg
    refine ⟨W, B + (ds.length - (i + 1)) * nb, G0, H0, G2, e3, _, R3.le (by omega), p3, ⟨fun e4 σ4 G4 H4 p4 s4 R4 => ⟨G4, e4, (s'.trans g2.eg).trans s4, R4, p4⟩, fun x v G4 H4 p4 s4 R4 => q.rt x v G4 H4 p4 (sG.trans s4) (R4.le (by omega)), fun e4 σ4 G4 H4 p4 s4 R4 => q.nx e4 σ4 G4 H4 p4 (sG.trans s4) (R4.le (by omega)), fun e4 σ4 G4 H4 p4 s4 R4 => ⟨G4, e4, (s'.trans g2.eg).trans s4, R4, p4⟩⟩⟩
  · have e : i = ds.length := by omega
    subst e
    rw [List.drop_length] at p'
    exact .inl ⟨(it G' H' s' R'.pub _).2 (Nat.le_refl _), q.nx e' σ' G' H' p' (s1.trans s') (R'.le (by omega))⟩
theorem ts_imp {K : PySem.W.Frag} {n n' : Nat} {m m' : MS} (hn : n ≤ n') (h : ∀ E env, m' E env → m E env) : ∀ D σ H, tS K n' m' D σ H → tS K n m D σ H := fun D σ H ⟨W, B, G0, H0, G, env, E, R, hm, q⟩ => ⟨W, B, G0, H0, G, env, E, R.le (by omega), h _ _ hm, q⟩
end
/-! ### a list comprehension -/
def mLcL (g : MG) (tt : MT) (te : ME) (vs : List Nat) : List D → List D → DEnv → (List D → Prop) → Prop
  | [], acc, _, P => P acc
  | x :: xs, acc, env, P => g x (wipeE env vs) fun e1 => tt e1 fun b e2 => e2 = e1 ∧ match b with
    | true => te e2 fun y e3 => e3 = e2 ∧ acc.length < sizeLine ∧ mLcL g tt te vs xs (acc ++ [y]) env P
    | false => mLcL g tt te vs xs acc env P
def mYes : MT := fun env P => P true env
def mLcC (nb c : Nat) (i : MI) (g : MG) (tt : MT) (te : ME) (vs : List Nat) : MF := fun env P => i env fun ds e1 => ds.length * nb ≤ c ∧ noOwn e1 vs ∧ mLcL g tt te vs ds [] e1 fun ys => P ys e1
/-- own slots published ahead of it -/
def mPub (is : List Nat) (m : MF) : MF := fun env P => match is with
  | [] => m env P
  | i :: r => match env[i]? with
    | some (.own xs) => mPub r m (env.set i (.d (.list xs))) P
    | _ => mPub r m env P
abbrev GTs (X : Cx) (es : List Expr) (n : Nat) (m : MT) : Prop := PTs X es (tDT X.K n m)
theorem pts_imp {X : Cx} {es : List Expr} {t t' : TT} (h : PTs X es t) (q : ∀ σ H Q, t' σ H Q → t σ H Q) : PTs X es t' := ⟨fun pins s σ H Q I z => h.run pins s σ H Q I (q σ H Q z)⟩
theorem gts_nil {X : Cx} : GTs X [] 0 mYes := pts_imp pts_nil fun σ H Q h => by
  obtain ⟨W, B, G0, H0, G, env, P, R, hm, q⟩ := h
  exact q _ _ _ _ hm (Same.refl _) R
theorem gts_one {X : Cx} {c : Expr} {m : MT} {n : Nat} (h : GT X c n m) : GTs X [c] n m := pts_one h
theorem lc_ok {K : PySem.W.Frag} {mi : MI} {mg : MG} {mt : MT} {me : ME} {vs : List Nat} {ni nt ne c : Nat} {σ : L2.St} {H : Hp} {Q : VK} (h : tF K (ni + c) (mLcC (nt + ne) c mi mg mt me vs) σ H Q) : tLc (tI K ni mi) (tG K vs mg) (tDT K nt mt) (tD K ne me) vs σ H Q := by
  obtain ⟨W, B, G0, H0, G, env, P, R, hm, q⟩ := h
  refine ⟨W, B + c, G0, H0, G, env, _, R.le (by omega), hm, fun ds e1 J G1 H1 p1 s1 R1 it A hA => ?_⟩
  obtain ⟨cost, no, p1⟩ := p1
  obtain ⟨R2, f1, f2, f3, f4⟩ := R1.fresh (o := .lst []) hA
  refine ⟨fun i m H' => m = ds.length - i ∧ i ≤ ds.length ∧ ∃ G' av acc, Same G1 G' ∧ Rel K W (B + (ds.length - i) * (nt + ne)) G0 H0 G' e1 σ H' ∧ H' A = some (.lst av) ∧ G' A = none ∧ (∀ (i : Nat) l ys, e1[i]? = some (.own ys) → σ[i]? = some (some (.ref l)) → l ≠ A) ∧ DrAll K G' av acc ∧ mLcL mg mt me vs (ds.drop i) acc e1 (fun ys => P ys e1),
    ⟨ds.length, rfl, Nat.zero_le _, G1, [], [], Same.refl _, R2.le (by rw [Nat.sub_zero]; omega), upd_same, f1, f4, .nil, p1⟩, ?_⟩
  rintro i m H' ⟨rfl, hi, G', av, acc, s', R', hA', gA', oA', dA', p'⟩
  by_cases hlt : i < ds.length
  · have hx : ds[i]? = some ds[i] := List.getElem?_eq_getElem hlt
    have hd : ds.drop i = ds[i] :: ds.drop (i + 1) := List.drop_eq_getElem_cons hlt
    obtain ⟨hgo, hy⟩ := (it G' H' s' R'.pub i).1 _ hx
    rw [hd] at p'
    rw [turn_cost hlt] at R'
    refine .inr ⟨hgo, fun H2 => ∃ G' av acc, Same G1 G' ∧ Rel K W (B + (ds.length - (i + 1)) * (nt + ne)) G0 H0 G' e1 σ H2 ∧ H2 A = some (.lst av) ∧ G' A = none ∧ (∀ (i : Nat) l ys, e1[i]? = some (.own ys) → σ[i]? = some (some (.ref l)) → l ≠ A) ∧ DrAll K G' av acc ∧ mLcL mg mt me vs (ds.drop (i + 1)) acc e1 (fun ys => P ys e1), fun H2 hN => ⟨ds.length - (i + 1), by omega, rfl, hlt, hN⟩, fun v H2 y => ?_⟩
    obtain ⟨G2, g2, d2⟩ := hy v H2 y
    have R3 := R'.grow g2
    have hA2 : H2 A = some (.lst av) := g2.eh _ _ hA'
    have gA2 : G2 A = none := by
      cases z : G2 A with
      | none => rfl
      | some o =>
        have := g2.new A o z gA'
        rw [hA'] at this
        cases this
    have hg0 : G0 A = none := R3.g0.free gA2
    have R4 := (R3.guard hA2 gA2 oA').wipe vs
    refine ⟨W, _, G0, upd H0 A (.lst av), G2, _, _, _, R4, d2, p', fun e3 σ3 p3 R5 w1 w2 => ⟨?_, ?_⟩⟩
    · have idem : ∀ (τ : L2.St), wipe (wipe τ vs) vs = wipe τ vs := fun τ => by
        apply List.ext_getElem?
        intro n
        by_cases hn : n ∈ vs
        · have l1 : (wipe (wipe τ vs) vs)[n]? = (wipe τ vs)[n]? := by
            cases z1 : (wipe (wipe τ vs) vs)[n]? with
            | none =>
              cases z2 : (wipe τ vs)[n]? with
              | none => rfl
              | some y =>
                have b1 := (List.getElem?_eq_some_iff.mp z2).1
                rw [List.getElem?_eq_none_iff, wipe_length] at z1
                omega
            | some y =>
              cases y with
              | some u => exact absurd hn (wipe_some z1).2
              | none =>
                cases z2 : (wipe τ vs)[n]? with
                | none =>
                  have b1 := (List.getElem?_eq_some_iff.mp z1).1
                  rw [List.getElem?_eq_none_iff] at z2
                  rw [wipe_length] at b1
                  omega
                | some y2 =>
                  cases y2 with
                  | none => rfl
                  | some u => exact absurd hn (wipe_some z2).2
          exact l1
        · rw [wipe_out' hn]
      rw [w1, idem]
    · refine ⟨W, B + (ds.length - (i + 1)) * (nt + ne) + ne, G0, upd H0 A (.lst av), G2, e3, _, R5.le (by omega), p3, fun b e4 G4 H4 p4 s4 R6 => ?_⟩
      obtain ⟨rfl, p4⟩ := p4
      have sT : Same G1 G4 := (s'.trans g2.eg).trans s4
      have idemE : ∀ (τ : DEnv), wipeE (wipeE τ vs) vs = wipeE τ vs := fun τ => by
        apply List.ext_getElem?
        intro n
        by_cases hn : n ∈ vs
        · cases z1 : (wipeE (wipeE τ vs) vs)[n]? with
          | none =>
            rw [List.getElem?_eq_none_iff, wipeE_length] at z1
            exact (List.getElem?_eq_none_iff.mpr z1).symm
          | some y =>
            have b1 := (List.getElem?_eq_some_iff.mp z1).1
            rw [wipeE_length] at b1
            rw [List.getElem?_eq_getElem b1, wipeE_in hn z1, wipeE_in hn (List.getElem?_eq_getElem b1)]
        · rw [wipeE_out hn]
      have back : ∀ (B5 : Nat) (G5 H5 : Hp), Same G2 G5 → Rel K W B5 G0 (upd H0 A (.lst av)) G5 e4 σ3 H5 → Rel K W B5 G0 H0 G5 e1 σ H5 ∧ H5 A = some (.lst av) ∧ G5 A = none ∧ (∀ (i : Nat) l ys, e1[i]? = some (.own ys) → σ[i]? = some (some (.ref l)) → l ≠ A) := fun B5 G5 H5 s5 R7 => by
        have R8 := R7.wipe vs
        have idem' : wipe (wipe σ vs) vs = wipe σ vs := by
          have := w1
          apply List.ext_getElem?
          intro n
          by_cases hn : n ∈ vs
          · cases z1 : (wipe (wipe σ vs) vs)[n]? with
            | none =>
              rw [List.getElem?_eq_none_iff, wipe_length] at z1
              exact (List.getElem?_eq_none_iff.mpr z1).symm
            | some y =>
              have b1 := (List.getElem?_eq_some_iff.mp z1).1
              rw [wipe_length] at b1
              rw [List.getElem?_eq_getElem b1]
              cases y with
              | some u => exact absurd hn (wipe_some z1).2
              | none =>
                cases z2 : (wipe σ vs)[n] with
                | none => rfl
                | some u => exact absurd hn (wipe_some ((List.getElem?_eq_getElem b1).trans (congrArg some z2))).2
          · rw [wipe_out' hn]
        rw [w1, idem', w2, idemE] at R8
        obtain ⟨R9, u1, u2, u3⟩ := R8.unguard f3 hg0 f2
        exact ⟨R3.unwipe no s5 R9, u1, u2, oA'⟩
      cases b with
      | true =>
        refine iteT ⟨W, B + (ds.length - (i + 1)) * (nt + ne), G0, upd H0 A (.lst av), G4, e4, _, R6, p4, fun y e5 u G5 H5 p5 s5 R7 d5 => ?_⟩
        obtain ⟨rfl, hl, p5⟩ := p5
        obtain ⟨Rb, b1, b2, b3⟩ := back _ G5 H5 (s4.trans s5) R7
        refine ⟨av, b1, by rw [dpAll_len dA']; exact hl, G5, av ++ [u], acc ++ [y], sT.trans s5, ?_, upd_same, b2, b3, dpAll_app (dpAll_same ((g2.eg.trans s4).trans s5) dA') (dpAll_one d5), p5⟩
        refine { g0 := Rb.g0, pub := fun a o e => ?_, gm := Rb.gm, inv := W.loc _ H5 _ (fun a m => ?_) Rb.inv, fr := fun a o e m => ?_, pn := Rb.pn, len := Rb.len, slot := fun j e s h1 h2 => ?_, dis := Rb.dis }
        · have ne : a ≠ A := fun z => by
            subst z
            rw [b2] at e
            cases e
          rw [upd_ne ne]
          exact Rb.pub a o e
        · rw [upd_ne fun z => by subst z; exact f3 m]
        · have ne : a ≠ A := fun z => by
            subst z
            rw [f2] at e
            cases e
          rw [upd_ne ne]
          exact Rb.fr a o e m
        · have q := Rb.slot j e s h1 h2
          cases e with
          | own zs =>
            obtain ⟨l2, us2, ee, hl2, n2, z0, m2, q1⟩ := q
            refine ⟨l2, us2, ee, ?_, n2, z0, m2, q1⟩
            subst ee
            rw [upd_ne (b3 j l2 zs h1 h2)]
            exact hl2
          | un => trivial
          | d x => exact q
          | hd => exact q
      | false =>
        obtain ⟨Rb, b1, b2, b3⟩ := back _ G4 H4 s4 (R6.le (Nat.le_add_right _ _))
        exact iteF ⟨G4, av, acc, sT, Rb, b1, b2, b3, dpAll_same (g2.eg.trans s4) dA', p4⟩
  · have e : i = ds.length := by omega
    subst e
    rw [List.drop_length] at p'
    exact .inl ⟨(it G' H' s' R'.pub _).2 (Nat.le_refl _), q _ e1 A G' H' p' (s1.trans s') (R'.le (by omega)) ⟨av, hA', gA', f2, f3, oA', dA'⟩⟩
section
variable {X : Cx} {elt tg iter : Expr} {ifs : List Expr} {scope : Scope} {own : List (Str × Nat)} {pos spos py : Pos} {mi : MI} {mg : MG} {mt : MT} {me : ME} {ni nt ne : Nat}
theorem gf_lc (c : Nat) (hc : X.calm = true) (hN : X.N.Nodup) (hi : GI X tg iter ni mi) (ok : BlkOk X.N X.env.scope scope own)
    (hg : ∀ (s : Shared) (H : Hp) (C : Addr) (cl : List (Str × Addr)) (fp : List Addr), GG (X.blk s H scope (compEnvC scope cl C X.env) fp) tg (own.map (·.2)) mg) (ht : ∀ (s : Shared) (H : Hp) (C : Addr) (cl : List (Str × Addr)) (fp : List Addr), GTs (X.blk s H scope (compEnvC scope cl C X.env) fp) ifs nt mt)
    (he : ∀ (s : Shared) (H : Hp) (C : Addr) (cl : List (Str × Addr)) (fp : List Addr), GE (X.blk s H scope (compEnvC scope cl C X.env) fp) elt ne me) (hs : ∀ x, foldedSetIterable iter X.env x = pure x := by intro _; rfl) :
    GF X (.ListComp elt [⟨tg, iter, ifs, 0⟩] scope pos) (ni + c) (mLcC (nt + ne) c mi mg mt me (own.map (·.2))) := pe_imp (pe_lc hc hN hi ok hg ht he hs) fun σ H Q h => lc_ok h
theorem gs_setLc (c : Nat) {i : Nat} {y : Str} (hc : X.calm = true) (hN : X.N.Nodup) (hy : X.N[i]? = some y) (hyl : X.env.scope.names.lookup y = some .local)
    (hsw : swapsWith (.ListComp elt [⟨tg, iter, ifs, 0⟩] scope pos) (some (.Name y py)) spos.line X.env = pure true) (hi : GI X tg iter ni mi) (ok : BlkOk X.N X.env.scope scope own)
    (hg : ∀ (s : Shared) (H : Hp) (C : Addr) (cl : List (Str × Addr)) (fp : List Addr), GG (X.blk s H scope (compEnvC scope cl C X.env) fp) tg (own.map (·.2)) mg) (ht : ∀ (s : Shared) (H : Hp) (C : Addr) (cl : List (Str × Addr)) (fp : List Addr), GTs (X.blk s H scope (compEnvC scope cl C X.env) fp) ifs nt mt)
    (he : ∀ (s : Shared) (H : Hp) (C : Addr) (cl : List (Str × Addr)) (fp : List Addr), GE (X.blk s H scope (compEnvC scope cl C X.env) fp) elt ne me) (hs : ∀ x, foldedSetIterable iter X.env x = pure x := by intro _; rfl) :
    GS X (.Assign [.Name y py] (.ListComp elt [⟨tg, iter, ifs, 0⟩] scope pos) spos) (ni + c) (sSetF i (mLcC (nt + ne) c mi mg mt me (own.map (·.2)))) := ps_imp (ps_setLc hc hN hy hyl hsw hi ok hg ht he hs) fun D σ H h => by
  obtain ⟨W, B, G0, H0, G, env, E, R, hm, q⟩ := h
  refine lc_ok ⟨W, B, G0, H0, G, env, _, R, hm, fun xs e1 p G1 H1 p1 s1 R1 d1 => ?_⟩
  exact q.nx _ _ _ _ p1 s1 (R1.set_own d1)
end
end DL
namespace DL
open PySem PySem.Spec PyProof.Rows L2
/-! ### a def by data -/
theorem args_len {K : PySem.W.Frag} {W : Wd} {G : Hp} : ∀ {vs : List V} {as : List EV}, ArgsOk K W G vs as → vs.length = as.length
  | _, _, .nil => rfl
  | _, _, .cons _ t => congrArg (· + 1) (args_len t)
theorem args_get {K : PySem.W.Frag} {W : Wd} {G : Hp} : ∀ {vs : List V} {as : List EV} {i : Nat} {a : EV}, ArgsOk K W G vs as → as[i]? = some a → ∃ v, vs[i]? = some v ∧ ArgOk K W G a v
  | _, _, 0, _, .cons a _, h => by
    cases h
    exact ⟨_, rfl, a⟩
  | _, _, i + 1, _, .cons _ t, h => by
    obtain ⟨v, e, q⟩ := args_get (i := i) t h
    exact ⟨v, e, q⟩
def env0 (N : List Str) (as : List EV) : DEnv := as ++ List.replicate (N.length - as.length) .un
theorem rel_start {K : PySem.W.Frag} {W : Wd} {B : Nat} {G H : Hp} {vs : List V} {as : List EV} (N : List Str) (r : RW W B G H G H) (a : ArgsOk K W G vs as) : Rel K W B G H G (env0 N as) (L2.start N vs) H := by
  have hl := args_len a
  have key : ∀ (i : Nat) e s, (env0 N as)[i]? = some e → (L2.start N vs)[i]? = some s → e = .un ∨ ∃ v, s = some v ∧ ArgOk K W G e v := fun i e s h1 h2 => by
    unfold env0 at h1
    unfold L2.start at h2
    by_cases hi : i < as.length
    · rw [List.getElem?_append_left hi] at h1
      rw [List.getElem?_append_left (by rw [List.length_map]; omega), List.getElem?_map] at h2
      obtain ⟨v, e1, q⟩ := args_get a h1
      rw [e1] at h2
      cases h2
      exact .inr ⟨v, rfl, q⟩
    · rw [List.getElem?_append_right (by omega)] at h1
      obtain ⟨h3, h4⟩ := List.getElem?_eq_some_iff.mp h1
      rw [List.getElem_replicate] at h4
      exact .inl h4.symm
  refine { r with len := ?_, slot := fun i e s h1 h2 => ?_, dis := fun i j xi xj l ne h1 h2 h3 => ?_ }
  · unfold env0 L2.start
    rw [List.length_append, List.length_append, List.length_map, List.length_replicate, List.length_replicate, hl]
  · rcases key i e s h1 h2 with rfl | ⟨v, rfl, q⟩
    · trivial
    · cases e with
      | un => trivial
      | d x => exact ⟨v, rfl, q⟩
      | own xs => exact q.elim
      | hd => exact ⟨congrArg some q.1, q.2⟩
  · rcases key i _ _ h1 h3 with e | ⟨v, _, q⟩
    · cases e
    · exact q.elim
/-! ### operators on data -/
def dAdd : D → D → (D → Prop) → Prop
  | .int i, .int j, P => P (.int (i + j))
  | .str a, .str b, P => a.length + b.length ≤ sizeLine ∧ P (.str (a ++ b))
  | .list a, .list b, P => a.length + b.length ≤ sizeLine ∧ P (.list (a ++ b))
  | .tuple a, .tuple b, P => a.length + b.length ≤ sizeLine ∧ P (.tuple (a ++ b))
  | _, _, _ => False
def dSub : D → D → (D → Prop) → Prop
  | .int i, .int j, P => P (.int (i - j))
  | _, _, _ => False
/-- a text, a list times a number -/
def dMul : D → D → (D → Prop) → Prop
  | .int i, .int j, P => CMul i j ∧ P (.int (i * j))
  | .str z, .int k, P => MulOk z k ∧ P (.str (Txt.mul z k))
  | .list xs, .int k, P => (-(2 ^ 63) ≤ k ∧ k < 2 ^ 63 ∧ xs.length * k.toNat ≤ sizeLine) ∧ P (.list (List.replicate k.toNat xs).flatten)
  | _, _, _ => False
def dFdiv : D → D → (D → Prop) → Prop
  | .int i, .int j, P => CDiv i j ∧ P (.int (i / j))
  | _, _, _ => False
def dMod : D → D → (D → Prop) → Prop
  | .int i, .int j, P => 0 < j ∧ P (.int (i % j))
  | _, _, _ => False
def dPow : D → D → (D → Prop) → Prop
  | .int i, .int j, P => CPow i j ∧ P (.int (i ^ j.toNat))
  | _, _, _ => False
/-- an item -/
def dIx : D → D → (D → Prop) → Prop
  | .list xs, .int i, P => ∃ x, atI xs i = some x ∧ P x
  | .tuple xs, .int i, P => ∃ x, atI xs i = some x ∧ P x
  | .str z, .int i, P => z.length ≤ sizeLine ∧ ∃ c, atI z.cps.toList i = some c ∧ P (.str ⟨#[c]⟩)
  | _, _, _ => False
theorem dpAll_atI {K : PySem.W.Frag} {G : Hp} {vs : List V} {xs : List D} {i : Int} {x : D} (h : DrAll K G vs xs) (e : atI xs i = some x) : ∃ v, atI vs i = some v ∧ Dr K G v x := by
  unfold atI at e ⊢
  rw [dpAll_len h]
  cases z : ixN xs.length i with
  | none => rw [z] at e; cases e
  | some j =>
    rw [z] at e
    exact dpAll_get (i := j) h e
theorem dpAll_flat {K : PySem.W.Frag} {G : Hp} {vs : List V} {xs : List D} (h : DrAll K G vs xs) : ∀ n : Nat, DrAll K G (List.replicate n vs).flatten (List.replicate n xs).flatten
  | 0 => .nil
  | n + 1 => by
    rw [List.replicate_succ, List.replicate_succ, List.flatten_cons, List.flatten_cons]
    exact dpAll_app h (dpAll_flat h n)
section
variable {X : Cx}
theorem od_add : OpR X (binaryOp .Add) (rD2 X.K dAdd) := by
  intro pins s σ H x y v u Q I rx ry h
  obtain ⟨G, dx, dy, P, sG, d1, d2, hf, q⟩ := h
  unfold dAdd at hf
  split at hf
  · cases dp_int d1
    cases dp_int d2
    exact op_add pins s σ H _ _ v u Q I rx ry ⟨_, _, rfl, rfl, q _ _ G H hf (Grow.refl sG) (.int _)⟩
  · cases dp_str d1
    cases dp_str d2
    exact op_add_str pins s σ H _ _ v u Q I rx ry ⟨_, _, rfl, rfl, hf.1, q _ _ G H hf.2 (Grow.refl sG) (.str _)⟩
  · obtain ⟨a, us, rfl, h1, h2⟩ := dp_lst d1
    obtain ⟨b, ws, rfl, h3, h4⟩ := dp_lst d2
    refine op_cat pins s σ H _ _ v u Q I rx ry ⟨a, b, us, ws, rfl, rfl, sG _ _ h1, sG _ _ h3, by rw [dpAll_len h2, dpAll_len h4]; exact hf.1, fun p hp => ?_⟩
    exact q _ _ _ _ hf.2 (Grow.new1 sG hp) (.lst upd_same (dpAll_same (same_upd (sG.free hp)) (dpAll_app h2 h4)))
  · obtain ⟨a, us, rfl, h1, h2⟩ := dp_tup d1
    obtain ⟨b, ws, rfl, h3, h4⟩ := dp_tup d2
    refine op_catA pins s σ H _ _ v u Q I rx ry ⟨a, b, us, ws, rfl, rfl, same_sqT sG h1, same_sqT sG h3, by rw [dpAll_len h2, dpAll_len h4]; exact hf.1, fun e => ?_, fun e e2 => ?_, fun _ _ p hp => ?_⟩
    · subst e
      cases h2
      exact q _ _ G H hf.2 (Grow.refl sG) d2
    · subst e2
      cases h4
      refine q _ _ G H hf.2 (Grow.refl sG) ?_
      rw [List.append_nil]
      exact d1
    · exact q _ _ _ _ hf.2 (Grow.new1 sG hp) (.tup (SqT.of upd_same) (dpAll_same (same_upd (sG.free hp)) (dpAll_app h2 h4)))
  · exact hf.elim
theorem od_sub : OpR X (binaryOp .Sub) (rD2 X.K dSub) := by
  intro pins s σ H x y v u Q I rx ry h
  obtain ⟨G, dx, dy, P, sG, d1, d2, hf, q⟩ := h
  unfold dSub at hf
  split at hf
  · cases dp_int d1
    cases dp_int d2
    exact op_sub pins s σ H _ _ v u Q I rx ry ⟨_, _, rfl, rfl, q _ _ G H hf (Grow.refl sG) (.int _)⟩
  · exact hf.elim
theorem op_mul_str : OpR X (binaryOp .Mult) (fun x y H Q => ∃ z k, x = .str z ∧ y = .int k ∧ MulOk z k ∧ Q (.str (Txt.mul z k)) H) := by
  intro pins s σ H x y v u Q I rx ry h
  obtain ⟨z, k, rfl, rfl, ok, q⟩ := h
  obtain ⟨t, rfl⟩ := rx
  obtain ⟨t2, rfl⟩ := ry
  exact SB.mul ok fun t' tk => ⟨.str _, H, I.tok tk, ⟨_, rfl⟩, q⟩
theorem od_mul : OpR X (binaryOp .Mult) (rD2 X.K dMul) := by
  intro pins s σ H x y v u Q I rx ry h
  obtain ⟨G, dx, dy, P, sG, d1, d2, hf, q⟩ := h
  unfold dMul at hf
  split at hf
  · cases dp_int d1
    cases dp_int d2
    exact op_mul pins s σ H _ _ v u Q I rx ry ⟨_, _, rfl, rfl, hf.1, q _ _ G H hf.2 (Grow.refl sG) (.int _)⟩
  · cases dp_str d1
    cases dp_int d2
    exact op_mul_str pins s σ H _ _ v u Q I rx ry ⟨_, _, rfl, rfl, hf.1, q _ _ G H hf.2 (Grow.refl sG) (.str _)⟩
  · obtain ⟨a, us, rfl, h1, h2⟩ := dp_lst d1
    cases dp_int d2
    refine op_rep pins s σ H _ _ v u Q I rx ry ⟨a, _, us, rfl, rfl, sG _ _ h1, hf.1.1, hf.1.2.1, by rw [dpAll_len h2]; exact hf.1.2.2, fun p hp => ?_⟩
    exact q _ _ _ _ hf.2 (Grow.new1 sG hp) (.lst upd_same (dpAll_same (same_upd (sG.free hp)) (dpAll_flat h2 _)))
  · exact hf.elim
theorem od_fdiv : OpR X (binaryOp .FloorDiv) (rD2 X.K dFdiv) := by
  intro pins s σ H x y v u Q I rx ry h
  obtain ⟨G, dx, dy, P, sG, d1, d2, hf, q⟩ := h
  unfold dFdiv at hf
  split at hf
  · cases dp_int d1
    cases dp_int d2
    exact op_fdiv pins s σ H _ _ v u Q I rx ry ⟨_, _, rfl, rfl, hf.1, q _ _ G H hf.2 (Grow.refl sG) (.int _)⟩
  · exact hf.elim
theorem od_mod : OpR X (binaryOp .Mod) (rD2 X.K dMod) := by
  intro pins s σ H x y v u Q I rx ry h
  obtain ⟨G, dx, dy, P, sG, d1, d2, hf, q⟩ := h
  unfold dMod at hf
  split at hf
  · cases dp_int d1
    cases dp_int d2
    exact op_mod pins s σ H _ _ v u Q I rx ry ⟨_, _, rfl, rfl, hf.1, q _ _ G H hf.2 (Grow.refl sG) (.int _)⟩
  · exact hf.elim
theorem od_pow : OpR X (binaryOp .Pow) (rD2 X.K dPow) := by
  intro pins s σ H x y v u Q I rx ry h
  obtain ⟨G, dx, dy, P, sG, d1, d2, hf, q⟩ := h
  unfold dPow at hf
  split at hf
  · cases dp_int d1
    cases dp_int d2
    exact op_pow pins s σ H _ _ v u Q I rx ry ⟨_, _, rfl, rfl, hf.1, q _ _ G H hf.2 (Grow.refl sG) (.int _)⟩
  · exact hf.elim
theorem od_ix : IxR X (rD2 X.K dIx) := by
  intro value slice pins s σ H x y v u Q I rx ry h hs
  obtain ⟨G, dx, dy, P, sG, d1, d2, hf, q⟩ := h
  unfold dIx at hf
  split at hf
  · obtain ⟨a, us, rfl, h1, h2⟩ := dp_lst d1
    cases dp_int d2
    obtain ⟨z, e, hP⟩ := hf
    obtain ⟨w, e2, d3⟩ := dpAll_atI h2 e
    exact ix_list value slice pins s σ H _ _ v u Q I rx ry ⟨a, us, _, w, rfl, rfl, SqL.of (sG _ _ h1), e2, q _ _ G H hP (Grow.refl sG) d3⟩ hs
  · obtain ⟨a, us, rfl, h1, h2⟩ := dp_tup d1
    cases dp_int d2
    obtain ⟨z, e, hP⟩ := hf
    obtain ⟨w, e2, d3⟩ := dpAll_atI h2 e
    exact ix_tup value slice pins s σ H _ _ v u Q I rx ry ⟨a, us, _, w, rfl, rfl, same_sqT sG h1, e2, q _ _ G H hP (Grow.refl sG) d3⟩ hs
  · cases dp_str d1
    cases dp_int d2
    obtain ⟨hz, c, e, hP⟩ := hf
    exact ix_str value slice pins s σ H _ _ v u Q I rx ry ⟨_, _, c, rfl, rfl, hz, e, q _ _ G H hP (Grow.refl sG) (.str _)⟩ hs
  · exact hf.elim
def dNeg : D → (D → Prop) → Prop
  | .int i, P => P (.int (-i))
  | _, _ => False
theorem ud_neg : UnR X (unaryOp .USub) (rD1 X.K dNeg) := by
  intro pins s σ H x v Q I rx h
  obtain ⟨G, dx, P, sG, d1, hf, q⟩ := h
  unfold dNeg at hf
  split at hf
  · cases dp_int d1
    exact un_neg pins s σ H _ v Q I rx ⟨_, rfl, q _ _ G H hf (Grow.refl sG) (.int _)⟩
  · exact hf.elim
/-! ### comparisons of data -/
def okEq (x : D) : Bool := SeqAt.shaped x && noDict x
def cEq : D → D → (Bool → Prop) → Prop
  | .int i, .int j, P => P (decide (i = j))
  | .str i, .str j, P => P (decide (i = j))
  | .bool i, .bool j, P => P (decide (i = j))
  | .none, .none, P => P true
  | .list xs, .list [], P => P xs.isEmpty
  | x, y, P => okEq x = true ∧ okEq y = true ∧ P (PyData.eqv x y)
def cNe : D → D → (Bool → Prop) → Prop := fun x y P => cEq x y fun b => P (!b)
def cI (f : Int → Int → Bool) : D → D → (Bool → Prop) → Prop
  | .int i, .int j, P => P (f i j)
  | _, _, _ => False
theorem dec_V_int {i j : Int} : decide (V.int i = V.int j) = decide (i = j) := decide_eq_decide.mpr ⟨fun h => V.int.inj h, fun h => congrArg _ h⟩
theorem dec_V_str {i j : Str} : decide (V.str i = V.str j) = decide (i = j) := decide_eq_decide.mpr ⟨fun h => V.str.inj h, fun h => congrArg _ h⟩
theorem dec_V_bl {i j : Bool} : decide (V.bl i = V.bl j) = decide (i = j) := decide_eq_decide.mpr ⟨fun h => V.bl.inj h, fun h => congrArg _ h⟩
theorem list_at {pins : List (Addr × Obj)} {σ : L2.St} {H : Hp} {s : Shared} {a : Addr} {us : List V} (I : L2.Inv X pins σ H s) (h : H a = some (.lst us)) : ∃ its : Array Value, s.heap.IsList a its ∧ its.size = us.length := by
  obtain ⟨its, r, pl, _⟩ := I.list (SqL.of (K := X.K) h)
  exact ⟨its.toArray, pl.isList, by rw [List.size_toArray]; exact r.length.symm⟩
theorem all_empty {K : PySem.W.Frag} {G : Hp} {vs : List V} {xs : List D} (h : DrAll K G vs xs) : vs.isEmpty = xs.isEmpty := by
  cases h <;> rfl
theorem eq_nil_list {pins : List (Addr × Obj)} {σ : L2.St} {H : Hp} {s : Shared} {a b : Addr} {us : List V} (hu : X.A.units < cLine) (I : L2.Inv X pins σ H s) (h1 : H a = some (.lst us)) (h2 : H b = some (.lst [])) :
    SeqAt.RcAt X.A s (.ref a) (.ref b) us.isEmpty ∧ SeqAt.RcNeAt X.A s (.ref a) (.ref b) (!us.isEmpty) := by
  obtain ⟨its, l1, z1⟩ := list_at I h1
  obtain ⟨it2, l2, z2⟩ := list_at I h2
  cases us with
  | nil =>
    have e1 : its.size = 0 := z1
    have e2 : it2.size = 0 := z2
    have r1 := SeqAt.RcAt.lists (A := X.A) (e := fun _ => true) l1 l2 (by omega) hu (fun j h _ => absurd h (by omega))
    have r2 := SeqAt.RcNeAt.lists (A := X.A) (e := fun _ => true) l1 l2 (by omega) hu (fun j h _ => absurd h (by omega))
    rw [e1] at r1 r2
    exact ⟨r1, r2⟩
  | cons u r =>
    have ne : (its.size != it2.size) = true := by
      rw [z1, z2]
      rfl
    exact ⟨SeqAt.RcAt.lists_lengths l1 l2 ne hu, SeqAt.RcNeAt.lists_lengths l1 l2 ne hu⟩
theorem od_eq (hu : X.A.units + 64 < cLine) : OpR X (compareOp .Eq) (rDC2 X.K cEq) := by
  intro pins s σ H x y v u Q I rx ry h
  obtain ⟨G, dx, dy, P, sG, d1, d2, hf, q⟩ := h
  unfold cEq at hf
  split at hf
  · cases dp_int d1
    cases dp_int d2
    exact op_eq pins s σ H _ _ v u Q I rx ry ⟨rfl, by rw [dec_V_int]; exact q _ hf⟩
  · cases dp_str d1
    cases dp_str d2
    exact op_eq pins s σ H _ _ v u Q I rx ry ⟨rfl, by rw [dec_V_str]; exact q _ hf⟩
  · cases dp_bl d1
    cases dp_bl d2
    exact op_eq pins s σ H _ _ v u Q I rx ry ⟨rfl, by rw [dec_V_bl]; exact q _ hf⟩
  · cases dp_non d1
    cases dp_non d2
    exact op_eq pins s σ H _ _ v u Q I rx ry ⟨rfl, q _ hf⟩
  · obtain ⟨a, us, rfl, h1, h2⟩ := dp_lst d1
    obtain ⟨b, ws, rfl, h3, h4⟩ := dp_lst d2
    cases h4
    cases rx
    cases ry
    have e := all_empty h2
    exact (eq_nil_list (by omega) I (sG _ _ h1) (sG _ _ h3)).1 _ _ _ _ ⟨.bl _, H, I, rfl, q _ (by rw [e]; exact hf)⟩
  · obtain ⟨h1, h2, hP⟩ := hf
    simp only [okEq, Bool.and_eq_true] at h1 h2
    exact op_eqD hu pins s σ H _ _ v u Q I rx ry ⟨dx, dy, dr_dp (dp_same sG d1) h1.2, dr_dp (dp_same sG d2) h2.2, h1.1, h2.1, q _ hP⟩
theorem od_ne (hu : X.A.units + 64 < cLine) : OpR X (compareOp .NotEq) (rDC2 X.K cNe) := by
  intro pins s σ H x y v u Q I rx ry h
  obtain ⟨G, dx, dy, P, sG, d1, d2, hf, q⟩ := h
  unfold cNe cEq at hf
  split at hf
  · cases dp_int d1
    cases dp_int d2
    exact op_ne pins s σ H _ _ v u Q I rx ry ⟨rfl, by rw [dec_V_int]; exact q _ hf⟩
  · cases dp_str d1
    cases dp_str d2
    exact op_ne pins s σ H _ _ v u Q I rx ry ⟨rfl, by rw [dec_V_str]; exact q _ hf⟩
  · cases dp_bl d1
    cases dp_bl d2
    exact op_ne pins s σ H _ _ v u Q I rx ry ⟨rfl, by rw [dec_V_bl]; exact q _ hf⟩
  · cases dp_non d1
    cases dp_non d2
    exact op_ne pins s σ H _ _ v u Q I rx ry ⟨rfl, q _ hf⟩
  · obtain ⟨a, us, rfl, h1, h2⟩ := dp_lst d1
    obtain ⟨b, ws, rfl, h3, h4⟩ := dp_lst d2
    cases h4
    cases rx
    cases ry
    have e := all_empty h2
    exact (eq_nil_list (by omega) I (sG _ _ h1) (sG _ _ h3)).2 _ _ _ _ ⟨.bl _, H, I, rfl, q _ (by rw [e]; exact hf)⟩
  · obtain ⟨h1, h2, hP⟩ := hf
    simp only [okEq, Bool.and_eq_true] at h1 h2
    exact op_neD hu pins s σ H _ _ v u Q I rx ry ⟨_, _, dr_dp (dp_same sG d1) h1.2, dr_dp (dp_same sG d2) h2.2, h1.1, h2.1, q _ hP⟩
theorem od_cI {op : CmpOp} {f : Int → Int → Bool} (ho : OpR X (compareOp op) (rI0 fun i j => .bl (f i j))) : OpR X (compareOp op) (rDC2 X.K (cI f)) := by
  intro pins s σ H x y v u Q I rx ry h
  obtain ⟨G, dx, dy, P, sG, d1, d2, hf, q⟩ := h
  unfold cI at hf
  split at hf
  · cases dp_int d1
    cases dp_int d2
    exact ho pins s σ H _ _ v u Q I rx ry ⟨_, _, rfl, rfl, q _ hf⟩
  · exact hf.elim
def cLt := cI fun i j => decide (i < j)
def cLe := cI fun i j => decide (i ≤ j)
def cGt := cI fun i j => decide (j < i)
def cGe := cI fun i j => decide (j ≤ i)
theorem od_lt : OpR X (compareOp .Lt) (rDC2 X.K cLt) := od_cI op_lt
theorem od_le : OpR X (compareOp .LtE) (rDC2 X.K cLe) := od_cI op_le
theorem od_gt : OpR X (compareOp .Gt) (rDC2 X.K cGt) := od_cI op_gt
theorem od_ge : OpR X (compareOp .GtE) (rDC2 X.K cGe) := od_cI op_ge
def cIsN : D → D → (Bool → Prop) → Prop
  | .none, .none, P => P true
  | .dict _, .none, _ => False
  | _, .none, P => P false
  | _, _, _ => False
def cNotN : D → D → (Bool → Prop) → Prop := fun x y P => cIsN x y fun b => P (!b)
theorem isN_dec {K : PySem.W.Frag} {G : Hp} {v : V} {x : D} {P : Bool → Prop} (d : Dr K G v x) (h : cIsN x .none P) : P (decide (v = .non)) := by
  cases d <;> simpa [cIsN] using h
theorem od_isN : OpR X (compareOp .Is) (rDC2 X.K cIsN) := by
  intro pins s σ H x y v u Q I rx ry h
  obtain ⟨G, dx, dy, P, sG, d1, d2, hf, q⟩ := h
  cases dy with
  | none =>
    cases dp_non d2
    exact op_isN pins s σ H _ _ v u Q I rx ry ⟨rfl, q _ (isN_dec d1 hf)⟩
  | _ => cases dx <;> exact hf.elim
theorem od_notN : OpR X (compareOp .IsNot) (rDC2 X.K cNotN) := by
  intro pins s σ H x y v u Q I rx ry h
  obtain ⟨G, dx, dy, P, sG, d1, d2, hf, q⟩ := h
  cases dy with
  | none =>
    cases dp_non d2
    exact op_notN pins s σ H _ _ v u Q I rx ry ⟨rfl, q _ (isN_dec (P := fun b => P (!b)) d1 hf)⟩
  | _ => cases dx <;> exact hf.elim
/-- in -/
def flatD : D → Bool
  | .none => true
  | .bool _ => true
  | .int _ => true
  | .str _ => true
  | _ => false
def inD (x : D) (xs : List D) : Bool := xs.any fun y => PyData.eqv y x
def cIn : D → D → (Bool → Prop) → Prop
  | x, .list ys, P => (flatD x = true ∧ ys.all flatD = true) ∧ P (inD x ys)
  | x, .tuple ys, P => (flatD x = true ∧ ys.all flatD = true) ∧ P (inD x ys)
  | .str w, .str z, P => match w.cps.toList with
    | [c] => P (decide (c ∈ z.cps.toList))
    | _ => P (!(Builtin.Str.occurrences z w 0 z.length 1).isEmpty)
  | _, _, _ => False
def cNotIn : D → D → (Bool → Prop) → Prop := fun x y P => cIn x y fun b => P (!b)
theorem flat_v {K : PySem.W.Frag} {G : Hp} {v : V} {x : D} (d : Dr K G v x) (h : flatD x = true) : flatV v = true := by
  cases d <;> first | rfl | (simp [flatD] at h)
theorem eq_v {K : PySem.W.Frag} {G : Hp} {v u : V} {x y : D} (d : Dr K G v x) (d2 : Dr K G u y) (h : flatD x = true) (h2 : flatD y = true) : eqV v u = PyData.eqv x y := by
  cases d <;> first | (simp [flatD] at h; done) | (cases d2 <;> first | (simp [flatD] at h2; done) | simp [eqV, PyData.eqv])
theorem in_v {K : PySem.W.Frag} {G : Hp} {v : V} {x : D} (d : Dr K G v x) (h : flatD x = true) : ∀ {vs : List V} {xs : List D}, DrAll K G vs xs → xs.all flatD = true → vs.all flatV = true ∧ inV v vs = inD x xs
  | _, _, .nil, _ => ⟨rfl, rfl⟩
  | _, _, .cons a t, hf => by
    rw [List.all_cons, Bool.and_eq_true] at hf
    obtain ⟨h1, h2⟩ := in_v d h t hf.2
    refine ⟨by rw [List.all_cons, flat_v a hf.1, h1]; rfl, ?_⟩
    unfold inV inD at h2 ⊢
    rw [List.any_cons, List.any_cons, h2, eq_v a d hf.1 h]
theorem in_str_ok {w z : Str} {P : Bool → Prop} (hf : match w.cps.toList with
    | [c] => P (decide (c ∈ z.cps.toList))
    | _ => P (!(Builtin.Str.occurrences z w 0 z.length 1).isEmpty)) : (∃ c, w = ⟨#[c]⟩ ∧ P (decide (c ∈ z.cps.toList))) ∨ P (!(Builtin.Str.occurrences z w 0 z.length 1).isEmpty) := by
  split at hf
  · rename_i c e
    refine .inl ⟨c, ?_, hf⟩
    cases w with
    | mk arr =>
      cases arr with
      | mk l =>
        have e' : l = [c] := e
        rw [e']
  · exact .inr hf
theorem od_in : OpR X (compareOp .In) (rDC2 X.K cIn) := by
  intro pins s σ H x y v u Q I rx ry h
  obtain ⟨G, dx, dy, P, sG, d1, d2, hf, q⟩ := h
  unfold cIn at hf
  split at hf
  · obtain ⟨a, us, rfl, h1, h2⟩ := dp_lst d2
    obtain ⟨i1, i2⟩ := in_v d1 hf.1.1 h2 hf.1.2
    exact op_in_seq pins s σ H _ _ v u Q I rx ry ⟨a, us, rfl, .inl (SqL.of (sG _ _ h1)), flat_v d1 hf.1.1, i1, by rw [i2]; exact q _ hf.2⟩
  · obtain ⟨a, us, rfl, h1, h2⟩ := dp_tup d2
    obtain ⟨i1, i2⟩ := in_v d1 hf.1.1 h2 hf.1.2
    exact op_in_seq pins s σ H _ _ v u Q I rx ry ⟨a, us, rfl, .inr (same_sqT sG h1), flat_v d1 hf.1.1, i1, by rw [i2]; exact q _ hf.2⟩
  · cases dp_str d1
    cases dp_str d2
    rcases in_str_ok hf with ⟨c, rfl, hf⟩ | hf
    · exact op_in_sign pins s σ H _ _ v u Q I rx ry ⟨c, _, rfl, rfl, q _ hf⟩
    · exact op_in_str pins s σ H _ _ v u Q I rx ry ⟨_, _, rfl, rfl, q _ hf⟩
  · exact hf.elim
theorem od_notIn : OpR X (compareOp .NotIn) (rDC2 X.K cNotIn) := by
  intro pins s σ H x y v u Q I rx ry h
  obtain ⟨G, dx, dy, P, sG, d1, d2, hf, q⟩ := h
  unfold cNotIn cIn at hf
  split at hf
  · obtain ⟨a, us, rfl, h1, h2⟩ := dp_lst d2
    obtain ⟨i1, i2⟩ := in_v d1 hf.1.1 h2 hf.1.2
    exact op_notIn_seq pins s σ H _ _ v u Q I rx ry ⟨a, us, rfl, .inl (SqL.of (sG _ _ h1)), flat_v d1 hf.1.1, i1, by rw [i2]; exact q _ hf.2⟩
  · obtain ⟨a, us, rfl, h1, h2⟩ := dp_tup d2
    obtain ⟨i1, i2⟩ := in_v d1 hf.1.1 h2 hf.1.2
    exact op_notIn_seq pins s σ H _ _ v u Q I rx ry ⟨a, us, rfl, .inr (same_sqT sG h1), flat_v d1 hf.1.1, i1, by rw [i2]; exact q _ hf.2⟩
  · cases dp_str d1
    cases dp_str d2
    rcases in_str_ok (P := fun b => P (!b)) hf with ⟨c, rfl, hf⟩ | hf
    · exact op_notIn_sign pins s σ H _ _ v u Q I rx ry ⟨c, _, rfl, rfl, q _ hf⟩
    · exact op_notIn_str pins s σ H _ _ v u Q I rx ry ⟨_, _, rfl, rfl, q _ hf⟩
  · exact hf.elim
end
end DL
namespace DL
open PySem PySem.Spec PyProof.Rows L2
/-! ### promises where no repr is under way -/
structure Rm (k : Nat) (A : Around) : Prop where
  rm : Room k A
  gd : A.guards = some []
theorem Rm.mono {j k : Nat} {A : Around} (r : Rm k A) (h : j ≤ k) : Rm j A := ⟨r.rm.mono h, r.gd⟩
structure FnG (P : Program) (w : World) (K : PySem.W.Frag) (mg : Str → Option Value) (base : Heap) (CX : CXT) (k : Nat) (f : Addr) (fd : FuncData) (ps : List Str) (sp : Sp) : Prop where
  len : ∀ vs H Q E, sp vs H Q E → vs.length = ps.length
  run : ∀ (A : Around) (st : List Env) (s : Shared) (H : Hp) (args : Args) (us : List Value) (vs : List V) (Q : VK) (E : XK), Rm k A → Env0 P w K mg base A st s H →
    BindsTo s fd args (ps.zip us) → Vals vs us → sp vs H Q E → codeAny (model P w) A (.call (.ref f) args) (CR CX st P w H s Q E) s
section
variable {P : Program} {w : World} {K : PySem.W.Frag} {mg : Str → Option Value} {base : Heap} {CX : CXT} {k : Nat} {f : Addr} {fd : FuncData} {ps : List Str} {sp : Sp}
theorem FnG.of (F : FnOk P w K mg base CX k f fd ps sp) : FnG P w K mg base CX k f fd ps sp := ⟨F.len, fun A st s H args us vs Q E r => F.run A st s H args us vs Q E r.rm⟩
theorem FnG.mono {j : Nat} (F : FnG P w K mg base CX j f fd ps sp) (h : j ≤ k) : FnG P w K mg base CX k f fd ps sp := ⟨F.len, fun A st s H args us vs Q E r => F.run A st s H args us vs Q E (r.mono h)⟩
theorem FnG.imp {sp' : Sp} (F : FnG P w K mg base CX k f fd ps sp) (h : ∀ vs H Q E, sp' vs H Q E → sp vs H Q E) : FnG P w K mg base CX k f fd ps sp' :=
  ⟨fun vs H Q E q => F.len vs H Q E (h _ _ _ _ q), fun A st s H args us vs Q E r e b v q => F.run A st s H args us vs Q E r e b v (h _ _ _ _ q)⟩
/-- a def of the text by its body -/
theorem Fun.okG {x qual : Str} {st : Stmt} {N : List Str} (F : Fun K x qual st f fd) (S : FnScope N ps (defScope st)) (len : ∀ vs H Q E, sp vs H Q E → vs.length = ps.length)
    (hbody : ∀ (cdv : Value) (A : Around) (fs : List Env) (s : Shared) (H : Hp) (vs : List V) (Q : VK) (E : XK), Rm k (A.deeper (envOfC qual (defScope st) s.heap.objs.size f cdv)) → sp vs H Q E →
      ∃ t, PSs (cxOf CX P w K mg base N qual (defScope st) f cdv A fs s H E) (defBody st) t ∧ t { nx := fun _ H' => Q .non H', rt := Q } (L2.start N vs) H) : FnG P w K mg base CX (k + 1) f fd ps sp := by
  obtain ⟨oc, od, kV, doc, pm, an, cdv, ct, osl, rfl, look, code⟩ := F.ex
  refine ⟨len, fun A fs s H args us vs Q E r e0 hb rv hs => ?_⟩
  have inK : K.In s.heap := e0.mod.kin.keeps fun b o z => (e0.bs b o z).1
  have noL : s.heap.NoLimit := e0.mod.nolimit.keeps fun b o z => (e0.bs b o z).1
  refine codeAny_call_function r.rm.depth (inK _ _ look) rfl S.co S.gen rfl (PySem.W.codeRec_of inK code) (hb _ _ _ _ ?_)
  have kinds : ∀ y ∈ ps.zip us, (defScope st).names.lookup y.1 = some .local ∨
      ((defScope st).names.lookup y.1 = some .cell ∧ ((cellsFrom (s.heap.objs.size + 1) (defScope st).names []).lookup y.1).isSome = true) := by
    rintro ⟨n, v⟩ hy
    exact (S.par n (List.of_mem_zip hy).1).imp id fun z => ⟨z, PySem.W.cellsFrom_some _ _ _ (.inl z)⟩
  refine wpAny_newFunctionEnv_cells S.kind kinds fun env eqE s1 inC => ?_
  subst eqE
  refine ⟨noL.keeps inC.toInCall.keep, codeAny_func ?_⟩
  obtain ⟨t, ht, rd⟩ := hbody cdv A fs s H vs Q E ⟨r.rm.deeper _, r.gd⟩ hs
  have J := inv_start (CX := CX) (E := E) S r.rm.hd e0 (len _ _ _ _ hs) rv inC
  refine wpAny_mono (ht.run [] s1 _ H _ J rd) (fun fl s' z => ?_) fun _ _ z => z
  cases fl with
  | ret u =>
    obtain ⟨v, _, H', J', r', q⟩ := z
    exact ⟨v, H', J'.os, J'.bare, J'.base, J'.hok, r', q⟩
  | next =>
    obtain ⟨_, H', J', q⟩ := z
    exact ⟨V.non, H', J'.os, J'.bare, J'.base, J'.hok, rfl, q⟩
  | brk => exact z.elim fun _ z => z.elim fun _ z => z.2.elim
  | cont => exact z.elim fun _ z => z.elim fun _ z => z.2.elim
end
section
variable {X : Cx} {CX : CXT} {k : Nat} {f : Addr} {fd : FuncData} {ps : List Str} {sp : Sp} {E : XK} {x : Str} {p pos : Pos} {e : Expr} {es : List Expr} {t : TA} {dvs : List V} {ds : List Value}
theorem runG {pins : List (Addr × Obj)} {σ : L2.St} {H : Hp} {s : Shared} {Q : VK} {us : List Value} {vs : List V} (F : FnG X.prog X.w X.K X.mg X.base CX k f fd ps sp) (r : Rm k X.A) (hb : Binds X.K fd ps ds) (hd : Vals dvs ds) (hx : Passes CX X E)
    (I : Inv X pins σ H s) (rv : Vals vs us) (h : sp (vs ++ dvs) H Q E) : wpAny (model X.prog X.w) X.A (call (.ref f) us) (EP X pins σ Q) X.xe s := by
  have both := rv.append hd
  have n : (us ++ ds).length = ps.length := both.length.symm.trans (F.len _ _ _ _ h)
  have run := F.run X.A X.stack s H ⟨us, []⟩ (us ++ ds) (vs ++ dvs) Q E r I.env0 (hb s us I.kIn n) both h
  refine wpAny_call (codeAny_mono run fun res s' z => ?_)
  rcases res with err | fl
  · exact hx pins σ H s err s' I z
  · cases fl with
    | ret u => exact I.after z
    | next => exact z.elim
    | brk => exact z.elim
    | cont => exact z.elim
theorem pe_callG (F : FnG X.prog X.w X.K X.mg X.base CX k f fd ps sp) (r : Rm k X.A) (hg : Gl X x) (hm : X.mg x = some (.ref f)) (hk : PySem.W.keepIn X.K (.ref f) = true) (hb : Binds X.K fd ps ds) (hd : Vals dvs ds) (hx : Passes CX X E)
    (ha : PA X (e :: es) t) (hdb : (x == ("__debug__" : Str)) = false := by decide) (he : starEach (e :: es) X.env = (false, eval e X.env) :: starEach es X.env := by rfl) (hpl : (backTo pos (starEach es X.env)).any (·.1) = false := by rfl) :
    PE X (.Call (.Name x p) (e :: es) [] pos) (tCall sp dvs E t) := ⟨fun pins s σ H Q I h => by
  refine wpAny_Call_Name_kw (ld_glob I hg hm (PySem.W.callWith_K (h₀ := X.base) I.ok.mod.kin hk ?_ he hpl) hdb)
  exact thn (ha.run pos pins s σ H _ I h) fun us s1 ⟨vs, H1, I1, rv, q⟩ => ⟨I1.kIn, runG F r hb hd hx I1 rv q⟩⟩
theorem pe_call0G (F : FnG X.prog X.w X.K X.mg X.base CX k f fd ps sp) (r : Rm k X.A) (hg : Gl X x) (hm : X.mg x = some (.ref f)) (hk : PySem.W.keepIn X.K (.ref f) = true) (hb : Binds X.K fd ps ds) (hd : Vals dvs ds) (hx : Passes CX X E)
    (hdb : (x == ("__debug__" : Str)) = false := by decide) : PE X (.Call (.Name x p) [] [] pos) (tCall sp dvs E tNil) := ⟨fun pins s σ H Q I h =>
  wpAny_Call_Name_kw (ld_glob I hg hm (PySem.W.callWith_K0 I.kIn hk (runG (us := []) F r hb hd hx I .nil h)) hdb)⟩
end
/-- a def of the text that is called by its name: its promise on data; c: what it may draw at most -/
structure Cal (P : Program) (w : World) (K : PySem.W.Frag) (mg : Str → Option Value) (base : Heap) (x : Str) (k : Nat) (ps : List Str) (c : Nat) (sp : List EV → (D → Prop) → Prop) : Prop where
  ex : ∃ f fd, FnG P w K mg base CX0 k f fd ps (spD K c sp) ∧ mg x = some (.ref f) ∧ PySem.W.keepIn K (.ref f) = true ∧ Binds K fd ps []
section
variable {X : Cx} {k c : Nat} {ps : List Str} {sp : List EV → (D → Prop) → Prop} {x : Str} {p pos : Pos} {e : Expr} {es : List Expr} {m1 : MA} {n1 : Nat}
theorem ge_cal (C : Cal X.prog X.w X.K X.mg X.base x k ps c sp) (r : Rm k X.A) (hg : Gl X x)
    (ha : GA X (e :: es) n1 m1) (hdb : (x == ("__debug__" : Str)) = false := by decide) (he : starEach (e :: es) X.env = (false, eval e X.env) :: starEach es X.env := by rfl) (hpl : (backTo pos (starEach es X.env)).any (·.1) = false := by rfl) :
    GE X (.Call (.Name x p) (e :: es) [] pos) (n1 + c) (mCall sp m1) := by
  obtain ⟨f, fd, F, hm, hk, hb⟩ := C.ex
  exact pe_imp (pe_callG F r hg hm hk hb .nil pass0 ha hdb he hpl) fun σ H Q h => call_ok h
theorem ge_cal0 (C : Cal X.prog X.w X.K X.mg X.base x k ps c sp) (r : Rm k X.A) (hg : Gl X x) (hdb : (x == ("__debug__" : Str)) = false := by decide) : GE X (.Call (.Name x p) [] [] pos) c (mCall sp mNil) := by
  obtain ⟨f, fd, F, hm, hk, hb⟩ := C.ex
  refine pe_imp (pe_call0G F r hg hm hk hb .nil pass0 hdb) fun σ H Q h => ?_
  obtain ⟨W, B, G0, H0, G, env, P, R, hm, q⟩ := h
  exact ⟨W, B, G, [], _, R.toRW.self, .nil, hm, fun x v G2 H2 p2 r2 d2 => q x env v G2 H2 p2 r2.g0 (R.after r2) d2⟩
end
section
variable {P : Program} {w : World} {K : PySem.W.Frag} {mg : Str → Option Value} {base : Heap}
theorem okDG {x qual : Str} {st : Stmt} {f : Addr} {fd : FuncData} {N ps : List Str} {k n c : Nat} {sp : List EV → (D → Prop) → Prop} {ms : MS} (F : Fun K x qual st f fd) (S : FnScope N ps (defScope st)) (len : ∀ as Q, sp as Q → as.length = ps.length)
    (hbody : ∀ (cdv : Value) (A : Around) (fs : List Env) (s : Shared) (H : Hp) (E : XK), Rm k (A.deeper (envOfC qual (defScope st) s.heap.objs.size f cdv)) →
      GSs (cxOf CX0 P w K mg base N qual (defScope st) f cdv A fs s H E).nox (defBody st) n ms) (hn : n ≤ c)
    (hd : ∀ as Q, sp as Q → ms { nx := fun _ => Q .none, rt := Q } (env0 N as)) : FnG P w K mg base CX0 (k + 1) f fd ps (spD K c sp) := by
  refine Fun.okG F S (fun vs H Q E h => ?_) (fun cdv A fs s H vs Q E hr h => ?_)
  · obtain ⟨W, B, G, as, Pd, r, a, h, _⟩ := h
    rw [args_len a]
    exact len as Pd h
  · obtain ⟨W, B, G, as, Pd, r, a, h, q⟩ := h
    refine ⟨_, (hbody cdv A fs s H E hr).nox, W, B, G, H, G, env0 N as, _, rel_start N (r.le (by omega)) a, hd as Pd h, ?_⟩
    exact ⟨fun e σ g H' p z R => q _ _ g H' p R.toRW .non, fun x v g H' p z R d => q x v g H' p R d, fun _ _ _ _ p => p.elim, fun _ _ _ _ p => p.elim⟩
end
/-! ### the end of a law -/
/-- the script's heap: nothing, or the script locked -/
def scr (a : Addr) (o : Obj) (ns : List Int) : Hp := fun b => if b = a then some (.frz o (.lst (ns.map V.int))) else none
theorem scr_at {a b : Addr} {o : Obj} {ns : List Int} : (b = a ∧ scr a o ns b = some (.frz o (.lst (ns.map V.int)))) ∨ (b ≠ a ∧ scr a o ns b = none) := by
  by_cases z : b = a
  · exact .inl ⟨z, if_pos z⟩
  · exact .inr ⟨z, if_neg z⟩
section
variable {P : Program} {w : World} {K : PySem.W.Frag} {mg mb : Str → Option Value} {k : Nat} {fa a : Addr} {fd : FuncData} {x : Str} {sp : Sp} {s1 : Shared} {vs : List Value} {ns : List Int}
theorem law_core {H : Hp} (hH : ∀ b, H b = none ∨ (b = a ∧ H b = some (.frz { cls := .type "list", data := .seq vs.toArray } (.lst (ns.map V.int))) ∧ K.lookup a = none))
    (inK : K.In s1.heap) (gl : s1.heap.Ns mainGlobals mg) (bl : s1.heap.Ns builtinsNs mb) (bb : ∀ x : Str, x ≠ "__name__" → mb x = bootBuiltins x) (noL : s1.heap.NoLimit) (gen : s1.gens = #[])
    (ob : s1.heap.get? a = some { cls := .type "list", data := .seq vs.toArray }) (hok : HOk P w H s1.heap) (rm : Rm k callerA)
    (F : ∀ base : Heap, K.In base → base.Ns mainGlobals mg → FnG P w K mg base CX0 k fa fd [x] sp) (bind : ∀ (s : Shared) (u : Value), BindsTo s fd ⟨[u], []⟩ [(x, u)])
    (hs : sp [.ref a] H (fun v _ => v = .bl true) fun _ _ _ => False) :
    codeAny (model P w) callerA (.call (.ref fa) ⟨[.ref a], []⟩) (fun r s' => r = .ok (.ret (.bool true)) ∧ OldK s1.heap s'.heap ∧ s'.os = s1.os ∧ AllBare s'.gens) s1 := by
  -- what isn't tracked stands in the base
  have low : ∀ {b : Addr} {o : Obj}, s1.heap.get? b = some o → H b = none → (hidT s1.heap H).get? b = some o := fun z n => hidT_get z n
  have ns1 : ∀ {b : Addr} {m : Str → Option Value}, s1.heap.Ns b m → (hidT s1.heap H).Ns b m := by
    rintro b m ⟨o, es, ep, z, d, r⟩
    refine ⟨o, es, ep, low z ?_, d, r⟩
    rcases hH b with n | ⟨rfl, _⟩
    · exact n
    · rw [ob] at z
      cases z
      cases d
  have kin : K.In (hidT s1.heap H) := fun b o z => low (inK b o z) <| by
    rcases hH b with n | ⟨rfl, _, n⟩
    · exact n
    · rw [n] at z
      cases z
  have md : Mod K mg (hidT s1.heap H) := by
    obtain ⟨mc, h1, h2⟩ := noL
    exact ⟨kin, ns1 gl, ⟨mb, ns1 bl, bb⟩, mc, ns1 h1, h2⟩
  have e0 : Env0 P w K mg (hidT s1.heap H) callerA [] s1 H :=
    { frames := rfl, mod := md, bs := fun _ _ z => of_hidT z, bsz := Nat.le_of_eq (hidT_size _ _), funs := trivial, frf := fun b z => (nomatch z), hok := hok, bare := .of_eq gen }
  have run := (F _ kin (ns1 gl)).run callerA [] s1 H ⟨[.ref a], []⟩ [.ref a] [.ref a] _ _ rm e0 (bind s1 (.ref a)) (.cons rfl .nil) hs
  refine codeAny_mono run fun res s' z => ?_
  rcases res with err | fl
  · exact z.elim
  cases fl with
  | next => exact z.elim
  | brk => exact z.elim
  | cont => exact z.elim
  | ret u =>
    obtain ⟨v, H', os, bare, un, hok', rel, q⟩ := z
    cases (show v = .bl true from q)
    cases (show u = Value.bool true from rel)
    refine ⟨rfl, OldK.of_keep fun b o z => ?_, os, bare⟩
    rcases hH b with n | ⟨rfl, t, _⟩
    · exact un.keep b o z n (fun q => (nomatch q)) (fun q => (nomatch q))
    · have t2 := un.frzs b _ _ t
      obtain ⟨e1, _⟩ := hok b _ t
      obtain ⟨e2, _⟩ := hok' b _ t2
      rw [z] at e1
      cases e1
      exact e2
theorem law_end (inK : K.In s1.heap) (gl : s1.heap.Ns mainGlobals mg) (bl : s1.heap.Ns builtinsNs mb) (bb : ∀ x : Str, x ≠ "__name__" → mb x = bootBuiltins x) (noL : s1.heap.NoLimit) (gen : s1.gens = #[])
    (ob : s1.heap.get? a = some { cls := .type "list", data := .seq vs.toArray }) (iv : IntsAre vs ns) (hl : ns.length ≤ sizeLine) (rm : Rm k callerA)
    (F : ∀ base : Heap, K.In base → base.Ns mainGlobals mg → FnG P w K mg base CX0 k fa fd [x] sp) (bind : ∀ (s : Shared) (u : Value), BindsTo s fd ⟨[u], []⟩ [(x, u)])
    (hs : ∀ H : Hp, Only H → SqL K H a (ns.map V.int) → sp [.ref a] H (fun v _ => v = .bl true) fun _ _ _ => False) :
    codeAny (model P w) callerA (.call (.ref fa) ⟨[.ref a], []⟩) (fun r s' => r = .ok (.ret (.bool true)) ∧ OldK s1.heap s'.heap ∧ s'.os = s1.os ∧ AllBare s'.gens) s1 := by
  cases lk : K.lookup a with
  | none =>
    refine law_core (ns := ns) (H := scr a { cls := .type "list", data := .seq vs.toArray } ns) (fun b => ?_) inK gl bl bb noL gen ob (fun b u z => ?_) rm F bind (hs _ (fun b => ?_) ?_)
    · rcases scr_at (a := a) (b := b) (o := { cls := .type "list", data := .seq vs.toArray }) (ns := ns) with ⟨h1, h2⟩ | ⟨_, h2⟩
      · exact .inr ⟨h1, h2, lk⟩
      · exact .inl h2
    · rcases scr_at (a := a) (b := b) (o := { cls := .type "list", data := .seq vs.toArray }) (ns := ns) with ⟨h1, h2⟩ | ⟨_, h2⟩
      · subst h1
        cases h2.symm.trans z
        exact ⟨ob, by rw [List.length_map]; exact hl, vs, _, vals_ints iv, ob⟩
      · cases h2.symm.trans z
    · rcases scr_at (a := a) (b := b) (o := { cls := .type "list", data := .seq vs.toArray }) (ns := ns) with ⟨_, h2⟩ | ⟨_, h2⟩
      · exact .inr ⟨_, _, h2⟩
      · exact .inl h2
    · exact .inl (.inr ⟨_, if_pos rfl⟩)
  | some o =>
    have z := inK a o lk
    rw [ob] at z
    cases z
    refine law_core (ns := ns) (H := fun _ => none) (fun _ => .inl rfl) inK gl bl bb noL gen ob (fun _ _ z => (nomatch z)) rm F bind (hs _ (fun _ => .inl rfl) (.inr ?_))
    exact ⟨_, vs.toArray, _, lk, rfl, rfl, rfl, by rw [List.size_toArray, iv.length]; exact hl, by simpa using vals_ints iv⟩
end
/-- the goal that k_head leaves -/
theorem walkG {l : PySem.W.OpenLaw} {n k : Nat} {q : Program} {loose : List Str} {XP : (Str → Option Value) → Heap → Prop} {YP : World → Heap → Prop} {d : DefRec} {K : Params → PySem.W.Frag} {sp : PySem.W.Frag → Sp} {x : Str}
    (hn : l.most = some n) (hn2 : n ≤ sizeLine) (hdf : d.params.defaults = []) (rm : Rm k callerA) (hY : ∀ (w : World) (h : Heap), YP w h → (K w.params).In h)
    (F : ∀ (w : World) (mg : Str → Option Value) (fa : Addr) (h : Heap), (K w.params).In h → h.Ns mainGlobals mg → mg d.name = some (.ref fa) →
      ∃ fd : FuncData, (∀ (s : Shared) (u : Value), BindsTo s fd ⟨[u], []⟩ [(x, u)]) ∧ ∀ base : Heap, (K w.params).In base → base.Ns mainGlobals mg → FnG l.prog w (K w.params) mg base CX0 k fa fd [x] (sp (K w.params)))
    (hs : ∀ (K : PySem.W.Frag) (H : Hp) (a : Addr) (ns : List Int), ns.length ≤ n → (∀ z ∈ ns, Builtin.Int.intBits z ≤ 1048576) → Only H → SqL K H a (ns.map V.int) → sp K [.ref a] H (fun v _ => v = .bl true) fun _ _ _ => False) :
    PySem.W.WalkO q loose XP YP l.row.toRowW d [] (fun f vs => PySem.call f vs) :=
  Att.attach_callB hn hdf fun w s₀ s₁ mg mb fa o pm cd doc a vs ns G Y ho hd hcd hmg hobj hints hlen hbits hg => by
    obtain ⟨fd, hb, hF⟩ := F w mg fa _ (hY w _ Y) G.T.g hmg
    exact law_end (hY w _ Y) G.T.g G.T.b G.T.builtins G.T.nolimit hg hobj hints (Nat.le_trans hlen hn2) rm hF hb fun H hO hS => hs _ H a ns hlen hbits hO hS
end DL
namespace DL
open PySem PySem.Spec PyProof.Rows L2
/-! ### built-ins on data -/
def dLen : List D → (D → Prop) → Prop
  | [.str z], P => z.length ≤ sizeLine ∧ P (.int z.length)
  | [.list xs], P => P (.int xs.length)
  | [.tuple xs], P => P (.int xs.length)
  | _, _ => False
def dInt : List D → (D → Prop) → Prop
  | [.int i], P => P (.int i)
  | [.bool b], P => P (.int (if b then 1 else 0))
  | [.str z], P => ∃ n, intText? z = some n ∧ z.length ≤ 640 ∧ P (.int n)
  | _, _ => False
def dStr : List D → (D → Prop) → Prop
  | [.int i], P => i.natAbs.log2 < 1920 ∧ P (.str (toString i))
  | _, _ => False
def blsD : List D → Option (List Bool)
  | [] => some []
  | .bool b :: r => (blsD r).map (b :: ·)
  | _ :: _ => none
def dAll : List D → (D → Prop) → Prop
  | [.list xs], P => match blsD xs with
    | some bs => P (.bool (bs.all id))
    | none => False
  | _, _ => False
def dAny : List D → (D → Prop) → Prop
  | [.list xs], P => match blsD xs with
    | some bs => P (.bool (bs.any id))
    | none => False
  | _, _ => False
def dListOf : List D → (D → Prop) → Prop
  | [.list xs], P => P (.list xs)
  | [.tuple xs], P => P (.list xs)
  | _, _ => False
def dTupOf : List D → (D → Prop) → Prop
  | [.list xs], P => P (.tuple xs)
  | [.tuple xs], P => P (.tuple xs)
  | _, _ => False
def dRepr : List D → (D → Prop) → Prop
  | [.list xs], P => ((PyData.showable (.list xs) = true ∧ noDict (.list xs) = true) ∧ PyData.depth (.list xs) ≤ 60 ∧ (PyData.shown (.list xs)).length ≤ sizeLine) ∧ P (.str (PyData.shown (.list xs)))
  | [.tuple xs], P => ((PyData.showable (.tuple xs) = true ∧ noDict (.tuple xs) = true) ∧ PyData.depth (.tuple xs) ≤ 60 ∧ (PyData.shown (.tuple xs)).length ≤ sizeLine) ∧ P (.str (PyData.shown (.tuple xs)))
  | [.int i], P => i.natAbs.log2 < 1920 ∧ P (.str (toString i))
  | _, _ => False
theorem bls_v {K : PySem.W.Frag} {G : Hp} : ∀ {vs : List V} {xs : List D} {bs : List Bool}, DrAll K G vs xs → blsD xs = some bs → vs = bs.map V.bl
  | _, _, _, .nil, h => by
    cases h
    rfl
  | _, _, _, .cons (d := .bool b) a t, h => by
    simp only [blsD, Option.map_eq_some_iff] at h
    obtain ⟨r, h1, rfl⟩ := h
    cases dp_bl a
    rw [bls_v t h1]
    rfl
  | _, _, _, .cons (d := .none) _ _, h => by cases h
  | _, _, _, .cons (d := .int _) _ _, h => by cases h
  | _, _, _, .cons (d := .str _) _ _, h => by cases h
  | _, _, _, .cons (d := .list _) _ _, h => by cases h
  | _, _, _, .cons (d := .tuple _) _ _, h => by cases h
  | _, _, _, .cons (d := .dict _) _ _, h => by cases h
theorem all1 {K : PySem.W.Frag} {G : Hp} {vs : List V} {x : D} (h : DrAll K G vs [x]) : ∃ v, vs = [v] ∧ Dr K G v x := by
  cases h with
  | cons a t =>
    cases t
    exact ⟨_, rfl, a⟩
theorem all2 {K : PySem.W.Frag} {G : Hp} {vs : List V} {x y : D} (h : DrAll K G vs [x, y]) : ∃ v u, vs = [v, u] ∧ Dr K G v x ∧ Dr K G u y := by
  cases h with
  | cons a t =>
    obtain ⟨u, rfl, b⟩ := all1 t
    exact ⟨_, _, rfl, a, b⟩
section
variable {X : Cx}
theorem cd_len : CallR X (.builtin "len") (rDC X.K dLen) := by
  intro pins s σ H xs us Q I r h
  obtain ⟨G, ds, P, sG, da, hf, q⟩ := h
  unfold dLen at hf
  split at hf
  · obtain ⟨v, rfl, d⟩ := all1 da
    cases dp_str d
    exact call_len pins s σ H _ us Q I r ⟨_, _, rfl, ⟨hf.1, rfl⟩, q _ _ G H hf.2 (Grow.refl sG) (.int _)⟩
  · obtain ⟨v, rfl, d⟩ := all1 da
    obtain ⟨a, ws, rfl, h1, h2⟩ := dp_lst d
    exact call_len pins s σ H _ us Q I r ⟨_, _, rfl, .inl ⟨ws, SqL.of (sG _ _ h1), rfl⟩, q _ _ G H (by rw [dpAll_len h2]; exact hf) (Grow.refl sG) (.int _)⟩
  · obtain ⟨v, rfl, d⟩ := all1 da
    obtain ⟨a, ws, rfl, h1, h2⟩ := dp_tup d
    exact call_len pins s σ H _ us Q I r ⟨_, _, rfl, .inr ⟨ws, same_sqT sG h1, rfl⟩, q _ _ G H (by rw [dpAll_len h2]; exact hf) (Grow.refl sG) (.int _)⟩
  · exact hf.elim
theorem cd_int : CallR X (.type "int") (rDC X.K dInt) := by
  intro pins s σ H xs us Q I r h
  obtain ⟨G, ds, P, sG, da, hf, q⟩ := h
  unfold dInt at hf
  split at hf
  · obtain ⟨v, rfl, d⟩ := all1 da
    cases dp_int d
    exact call_int1 pins s σ H _ us Q I r (.inl ⟨_, rfl, q _ _ G H hf (Grow.refl sG) (.int _)⟩)
  · obtain ⟨v, rfl, d⟩ := all1 da
    cases dp_bl d
    exact call_int1 pins s σ H _ us Q I r (.inr ⟨_, rfl, q _ _ G H hf (Grow.refl sG) (.int _)⟩)
  · obtain ⟨v, rfl, d⟩ := all1 da
    cases dp_str d
    obtain ⟨n, h1, h2, h3⟩ := hf
    exact call_int_str pins s σ H _ us Q I r ⟨_, n, rfl, h1, h2, q _ _ G H h3 (Grow.refl sG) (.int _)⟩
  · exact hf.elim
theorem cd_str : CallR X (.type "str") (rDC X.K dStr) := by
  intro pins s σ H xs us Q I r h
  obtain ⟨G, ds, P, sG, da, hf, q⟩ := h
  unfold dStr at hf
  split at hf
  · obtain ⟨v, rfl, d⟩ := all1 da
    cases dp_int d
    exact call_str_int pins s σ H _ us Q I r ⟨_, rfl, hf.1, q _ _ G H hf.2 (Grow.refl sG) (.str _)⟩
  · exact hf.elim
theorem cd_all (hc : X.calm = true) : CallR X (.builtin "all") (rDC X.K dAll) := by
  intro pins s σ H xs us Q I r h
  obtain ⟨G, ds, P, sG, da, hf, q⟩ := h
  unfold dAll at hf
  split at hf
  · obtain ⟨v, rfl, d⟩ := all1 da
    obtain ⟨a, ws, rfl, h1, h2⟩ := dp_lst d
    split at hf
    · rename_i bs e
      rw [bls_v h2 e] at h1
      exact cr_all hc pins s σ H _ us Q I r ⟨a, bs, rfl, SqL.of (sG _ _ h1), q _ _ G H hf (Grow.refl sG) (.bl _)⟩
    · exact hf.elim
  · exact hf.elim
theorem cd_any (hc : X.calm = true) : CallR X (.builtin "any") (rDC X.K dAny) := by
  intro pins s σ H xs us Q I r h
  obtain ⟨G, ds, P, sG, da, hf, q⟩ := h
  unfold dAny at hf
  split at hf
  · obtain ⟨v, rfl, d⟩ := all1 da
    obtain ⟨a, ws, rfl, h1, h2⟩ := dp_lst d
    split at hf
    · rename_i bs e
      rw [bls_v h2 e] at h1
      exact cr_any hc pins s σ H _ us Q I r ⟨a, bs, rfl, SqL.of (sG _ _ h1), q _ _ G H hf (Grow.refl sG) (.bl _)⟩
    · exact hf.elim
  · exact hf.elim
theorem cd_list : CallR X (.type "list") (rDC X.K dListOf) := by
  intro pins s σ H xs us Q I r h
  obtain ⟨G, ds, P, sG, da, hf, q⟩ := h
  unfold dListOf at hf
  split at hf
  · obtain ⟨v, rfl, d⟩ := all1 da
    obtain ⟨a, ws, rfl, h1, h2⟩ := dp_lst d
    exact call_list_of pins s σ H _ us Q I r ⟨a, ws, rfl, .inl (SqL.of (sG _ _ h1)), fun p hp => q _ _ _ _ hf (Grow.new1 sG hp) (.lst upd_same (dpAll_same (same_upd (sG.free hp)) h2))⟩
  · obtain ⟨v, rfl, d⟩ := all1 da
    obtain ⟨a, ws, rfl, h1, h2⟩ := dp_tup d
    exact call_list_of pins s σ H _ us Q I r ⟨a, ws, rfl, .inr (same_sqT sG h1), fun p hp => q _ _ _ _ hf (Grow.new1 sG hp) (.lst upd_same (dpAll_same (same_upd (sG.free hp)) h2))⟩
  · exact hf.elim
theorem cd_tuple : CallR X (.type "tuple") (rDC X.K dTupOf) := by
  intro pins s σ H xs us Q I r h
  obtain ⟨G, ds, P, sG, da, hf, q⟩ := h
  unfold dTupOf at hf
  split at hf
  · obtain ⟨v, rfl, d⟩ := all1 da
    obtain ⟨a, ws, rfl, h1, h2⟩ := dp_lst d
    exact call_tuple_of pins s σ H _ us Q I r ⟨a, ws, rfl, .inl ⟨SqL.of (sG _ _ h1), fun p hp => q _ _ _ _ hf (Grow.new1 sG hp) (.tup (SqT.of upd_same) (dpAll_same (same_upd (sG.free hp)) h2))⟩⟩
  · obtain ⟨v, rfl, d⟩ := all1 da
    obtain ⟨a, ws, rfl, h1, h2⟩ := dp_tup d
    exact call_tuple_of pins s σ H _ us Q I r ⟨a, ws, rfl, .inr ⟨same_sqT sG h1, q _ _ G H hf (Grow.refl sG) d⟩⟩
  · exact hf.elim
theorem repr_ref (hg : X.A.guards = some []) (hu : X.A.units + 64 < cLine) {pins : List (Addr × Obj)} {s : Shared} {σ : L2.St} {H : Hp} {a : Addr} {us : List Value} {Q : VK} {x : D} (I : Inv X pins σ H s) (r : Vals [.ref a] us) (d : Dp X.K H (.ref a) x)
    (hs : x.showable = true) (hn : noDict x = true) (hd : x.depth ≤ 60) (hz : x.shown.length ≤ sizeLine) (q : Q (.str x.shown) H) : wpAny (model X.prog X.w) X.A (call (.builtin "repr") us) (EP X pins σ Q) X.xe s := by
  obtain ⟨u, rfl, r1⟩ := vals1 r
  cases r1
  obtain ⟨as, rd⟩ := Dp.reads I x _ _ d rfl
  have nd : ∀ y : D, noDict y = true → y.hasDict = false := noDict_has
  refine repr_of_reads' rd hs (fun z => by rw [nd x hn] at z; cases z) hg (by omega) (fun b o e => e) (fun h' t tk hk => ?_) hz
  exact ⟨.str _, H, I.kept hk, ⟨_, rfl⟩, q⟩
where
  noDict_has : ∀ y : D, noDict y = true → y.hasDict = false
    | .none, _ => rfl
    | .bool _, _ => rfl
    | .int _, _ => rfl
    | .str _, _ => rfl
    | .list xs, h => by
      rw [PyData.hasDict]
      exact noDicts_has xs (by simpa [noDict] using h)
    | .tuple xs, h => by
      rw [PyData.hasDict]
      exact noDicts_has xs (by simpa [noDict] using h)
    | .dict _, h => by simp [noDict] at h
  noDicts_has : ∀ ys : List D, noDicts ys = true → PyData.hasDictAll ys = false
    | [], _ => rfl
    | y :: r, h => by
      simp only [noDicts, Bool.and_eq_true] at h
      rw [PyData.hasDictAll, noDict_has y h.1, noDicts_has r h.2]
      rfl
theorem cd_repr (hg : X.A.guards = some []) (hu : X.A.units + 64 < cLine) : CallR X (.builtin "repr") (rDC X.K dRepr) := by
  intro pins s σ H xs us Q I r h
  obtain ⟨G, ds, P, sG, da, hf, q⟩ := h
  unfold dRepr at hf
  split at hf
  · obtain ⟨v, rfl, d⟩ := all1 da
    obtain ⟨⟨⟨h1, h2⟩, h3, h4⟩, hP⟩ := hf
    have d2 := dr_dp (dp_same sG d) h2
    obtain ⟨a, ws, rfl, _, _⟩ := dp_lst d
    exact repr_ref hg hu I r d2 h1 h2 h3 h4 (q _ _ G H hP (Grow.refl sG) (.str _))
  · obtain ⟨v, rfl, d⟩ := all1 da
    obtain ⟨⟨⟨h1, h2⟩, h3, h4⟩, hP⟩ := hf
    have d2 := dr_dp (dp_same sG d) h2
    obtain ⟨a, ws, rfl, _, _⟩ := dp_tup d
    exact repr_ref hg hu I r d2 h1 h2 h3 h4 (q _ _ G H hP (Grow.refl sG) (.str _))
  · obtain ⟨v, rfl, d⟩ := all1 da
    cases dp_int d
    exact SkE.call_repr_int pins s σ H _ us Q I r ⟨_, rfl, hf.1, q _ _ G H hf.2 (Grow.refl sG) (.str _)⟩
  · exact hf.elim
/-! ### isinstance -/
def tyName : D → String
  | .none => "NoneType"
  | .bool _ => "bool"
  | .int _ => "int"
  | .str _ => "str"
  | .list _ => "list"
  | .tuple _ => "tuple"
  | .dict _ => "dict"
def isiN (T n : String) : Bool := n == T || (T == "int" && n == "bool")
def isiD (T : String) (x : D) : Bool := isiN T (tyName x)
def tyNames : List String := ["NoneType", "bool", "int", "str", "list", "tuple", "dict"]
theorem tyName_mem (x : D) : tyName x ∈ tyNames := by
  cases x <;> simp [tyName, tyNames]
theorem ty_x {K : PySem.W.Frag} {G H : Hp} {v : V} {x : D} (s : Same G H) (d : Dr K G v x) : TyX K H v (.type (tyName x)) := by
  cases d with
  | non => exact .base .non
  | bl b => exact .base (.bl b)
  | int i => exact .base (.int i)
  | str z => exact .base (.str z)
  | lst h _ => exact .base (.lst (s _ _ h))
  | tup h _ =>
    rcases h with (h | ⟨o, h⟩) | ⟨o, its, n, h1, h2, _⟩
    · exact .base (.tup (s _ _ h))
    · exact .fTuple (s _ _ h)
    · exact .kTuple h1 h2
  | dic h _ => exact .base (.dK (s _ _ h))
def mIsi (T : String) (m : ME) : ME := fun env P => m env fun x e1 => P (.bool (isiD T x)) e1
theorem ge_isi {T : String} {Tn : Str} {e : Expr} {me : ME} {ne : Nat} {p p2 pos : Pos} (hk : ∀ x : D, kitB (tyName x) T = some (isiD T x)) (hg : Gl X "isinstance") (hm : X.mg "isinstance" = none) (hgT : Gl X Tn) (hmT : X.mg Tn = none) (hvT : bootBuiltins Tn = some (.type T)) (he : GE X e ne me)
    (hs : starEach [e, .Name Tn p2] X.env = (false, eval e X.env) :: starEach [.Name Tn p2] X.env := by rfl) (hpl : (backTo pos (starEach [.Name Tn p2] X.env)).any (·.1) = false := by rfl) (hn : Tn ≠ "__name__" := by decide) (hd : (Tn == ("__debug__" : Str)) = false := by decide)
    (hs2 : starEach [.Name Tn p2] X.env = (false, eval (.Name Tn p2) X.env) :: starEach [] X.env := by rfl) :
    GE X (.Call (.Name "isinstance" p) [e, .Name Tn p2] [] pos) ne (mIsi T me) :=
  pe_imp (pe_callB call_isi hg hm boot_isinstance (pa_cons he (pa_cons (pe_bltn (v := .ty T) hgT hmT hvT rfl hn hd) pa_nil hs2) hs) (by decide) (by decide) hs hpl) fun σ H Q h => by
  obtain ⟨W, B, G0, H0, G, env, P, R, hm, q⟩ := h
  refine ⟨W, B, G0, H0, G, env, _, R, hm, fun x e1 v G1 H1 p1 s1 R1 d1 => ?_⟩
  exact ⟨v, .ty T, _, _, _, rfl, .ty T, ty_x R1.pub d1, kit_ty (hk x), q _ e1 _ G1 H1 p1 s1 R1 (.bl _)⟩
theorem kit_str : ∀ x : D, kitB (tyName x) "str" = some (isiD "str" x) := fun x => (show ∀ n ∈ tyNames, kitB n "str" = some (isiN "str" n) by decide +kernel) _ (tyName_mem x)
theorem kit_int : ∀ x : D, kitB (tyName x) "int" = some (isiD "int" x) := fun x => (show ∀ n ∈ tyNames, kitB n "int" = some (isiN "int" n) by decide +kernel) _ (tyName_mem x)
theorem kit_tuple : ∀ x : D, kitB (tyName x) "tuple" = some (isiD "tuple" x) := fun x => (show ∀ n ∈ tyNames, kitB n "tuple" = some (isiN "tuple" n) by decide +kernel) _ (tyName_mem x)
theorem kit_list : ∀ x : D, kitB (tyName x) "list" = some (isiD "list" x) := fun x => (show ∀ n ∈ tyNames, kitB n "list" = some (isiN "list" n) by decide +kernel) _ (tyName_mem x)
theorem kit_bool : ∀ x : D, kitB (tyName x) "bool" = some (isiD "bool" x) := fun x => (show ∀ n ∈ tyNames, kitB n "bool" = some (isiN "bool" n) by decide +kernel) _ (tyName_mem x)
theorem kit_dict : ∀ x : D, kitB (tyName x) "dict" = some (isiD "dict" x) := fun x => (show ∀ n ∈ tyNames, kitB n "dict" = some (isiN "dict" n) by decide +kernel) _ (tyName_mem x)
end
end DL
namespace DL
open PySem PySem.Spec PyProof.Rows L2
/-! ### methods of texts -/
def strsD : List D → Option (List Str)
  | [] => some []
  | .str z :: r => (strsD r).map (z :: ·)
  | _ :: _ => none
theorem strs_v {K : PySem.W.Frag} {G : Hp} : ∀ {vs : List V} {xs : List D} {bs : List Str}, DrAll K G vs xs → strsD xs = some bs → vs = bs.map V.str
  | _, _, _, .nil, h => by
    cases h
    rfl
  | _, _, _, .cons (d := .str b) a t, h => by
    simp only [strsD, Option.map_eq_some_iff] at h
    obtain ⟨r, h1, rfl⟩ := h
    cases dp_str a
    rw [strs_v t h1]
    rfl
  | _, _, _, .cons (d := .none) _ _, h => by cases h
  | _, _, _, .cons (d := .int _) _ _, h => by cases h
  | _, _, _, .cons (d := .bool _) _ _, h => by cases h
  | _, _, _, .cons (d := .list _) _ _, h => by cases h
  | _, _, _, .cons (d := .tuple _) _ _, h => by cases h
  | _, _, _, .cons (d := .dict _) _ _, h => by cases h
def fJoin : D → List D → (D → Prop) → Prop
  | .str a, [.list xs], P => match strsD xs with
    | some ys => (ys.map (·.length)).sum + ys.length * a.length ≤ 16777216 ∧ P (.str (Txt.join a ys))
    | none => False
  | _, _, _ => False
def fSplit : D → List D → (D → Prop) → Prop
  | .str a, [.str b], P => ((b.length == 0) = false ∧ a.length + 2 ≤ sizeLine) ∧ P (.list ((Txt.split a b).map PyData.str))
  | _, _, _ => False
def fUpper : D → List D → (D → Prop) → Prop
  | .str a, [], P => a.length ≤ 5592405 ∧ P (.str (Txt.upper a))
  | _, _, _ => False
def fStarts : D → List D → (D → Prop) → Prop
  | .str a, [.str b], P => P (.bool (Txt.startswith a b))
  | _, _, _ => False
theorem dr_strs {K : PySem.W.Frag} {G : Hp} : ∀ ys : List Str, DrAll K G (ys.map V.str) (ys.map PyData.str)
  | [] => .nil
  | y :: r => .cons (.str y) (dr_strs r)
section
variable {X : Cx}
theorem md_join : MtR X "str.join" (rDM X.K fJoin) := by
  intro pins s σ H x xs v us Q I rx rs h
  obtain ⟨G, dx, ds, P, sG, d1, da, hf, q⟩ := h
  unfold fJoin at hf
  split at hf
  · cases dp_str d1
    obtain ⟨w, rfl, d⟩ := all1 da
    obtain ⟨a, ws, rfl, h1, h2⟩ := dp_lst d
    split at hf
    · rename_i ys e
      rw [strs_v h2 e] at h1
      exact mt_join pins s σ H _ _ v us Q I rx rs ⟨_, a, ys, rfl, rfl, .inl (SqL.of (sG _ _ h1)), hf.1, q _ _ G H hf.2 (Grow.refl sG) (.str _)⟩
    · exact hf.elim
  · exact hf.elim
theorem md_split : MtR X "str.split" (rDM X.K fSplit) := by
  intro pins s σ H x xs v us Q I rx rs h
  obtain ⟨G, dx, ds, P, sG, d1, da, hf, q⟩ := h
  unfold fSplit at hf
  split at hf
  · cases dp_str d1
    obtain ⟨w, rfl, d⟩ := all1 da
    cases dp_str d
    exact mt_split pins s σ H _ _ v us Q I rx rs ⟨_, _, rfl, rfl, hf.1.1, hf.1.2, fun p hp => q _ _ _ _ hf.2 (Grow.new1 sG hp) (.lst upd_same (dr_strs _))⟩
  · exact hf.elim
theorem md_upper : MtR X "str.upper" (rDM X.K fUpper) := by
  intro pins s σ H x xs v us Q I rx rs h
  obtain ⟨G, dx, ds, P, sG, d1, da, hf, q⟩ := h
  unfold fUpper at hf
  split at hf
  · cases dp_str d1
    cases da
    exact mt_upper pins s σ H _ _ v us Q I rx rs ⟨_, rfl, rfl, hf.1, q _ _ G H hf.2 (Grow.refl sG) (.str _)⟩
  · exact hf.elim
theorem md_starts : MtR X "str.startswith" (rDM X.K fStarts) := by
  intro pins s σ H x xs v us Q I rx rs h
  obtain ⟨G, dx, ds, P, sG, d1, da, hf, q⟩ := h
  unfold fStarts at hf
  split at hf
  · cases dp_str d1
    obtain ⟨w, rfl, d⟩ := all1 da
    cases dp_str d
    exact mt_startswith pins s σ H _ _ v us Q I rx rs ⟨_, _, rfl, rfl, q _ _ G H hf (Grow.refl sG) (.bl _)⟩
  · exact hf.elim
end
/-! ### slices -/
abbrev MO := DEnv → (Option Int → DEnv → Prop) → Prop
def tDO (K : PySem.W.Frag) (n : Nat) (m : MO) : TO := fun σ H Q => ∃ (W : Wd) (B : Nat) (G0 H0 G : Hp) (env : DEnv) (P : Option Int → DEnv → Prop), Rel K W (B + n) G0 H0 G env σ H ∧ m env P ∧
  ∀ o env' G' H', P o env' → Same G G' → Rel K W B G0 H0 G' env' σ H' → Q o H'
def oNone : MO := fun env P => P none env
def oSome (m : ME) : MO := fun env P => m env fun x e1 => match x with
  | .int i => P (some i) e1
  | _ => False
def cutD (xs : List D) (lo hi : Option Int) : List D := (xs.drop (HT.sIx xs.length 0 lo)).take (HT.sIx xs.length xs.length hi - HT.sIx xs.length 0 lo)
def dSl : D → Option Int → Option Int → (D → Prop) → Prop
  | .str z, lo, hi, P => z.length ≤ sizeLine ∧ P (.str (cutS z lo hi))
  | .list xs, lo, hi, P => P (.list (cutD xs lo hi))
  | .tuple xs, lo, hi, P => P (.tuple (cutD xs lo hi))
  | _, _, _, _ => False
def mSl (f : D → Option Int → Option Int → (D → Prop) → Prop) (m : ME) (lo hi : MO) : ME := fun env P => m env fun x e1 => lo e1 fun l e2 => hi e2 fun h e3 => f x l h fun z => P z e3
def rDSl (K : PySem.W.Frag) (f : D → Option Int → Option Int → (D → Prop) → Prop) : V → Option Int → Option Int → Hp → VK → Prop := fun x lo hi H Q => ∃ (G : Hp) (dx : D) (P : D → Prop), Same G H ∧ Dr K G x dx ∧ f dx lo hi P ∧
  ∀ z v G' H', P z → Grow G H G' H' → Dr K G' v z → Q v H'
theorem cut_v {K : PySem.W.Frag} {G : Hp} {vs : List V} {xs : List D} (h : DrAll K G vs xs) (lo hi : Option Int) : DrAll K G (cutV vs lo hi) (cutD xs lo hi) := by
  unfold cutV cutD
  rw [dpAll_len h]
  exact dpAll_take _ (dpAll_drop _ h)
section
variable {X : Cx} {e : Expr} {lo hi : Option Expr} {me : ME} {ml mh : MO} {pos p2 : Pos} {ne nl nh : Nat}
theorem po_imp {o : Option Expr} {t t' : TO} (h : PO X o t) (q : ∀ σ H Q, t' σ H Q → t σ H Q) : PO X o t' := ⟨fun pins s σ H Q I z => h.run pins s σ H Q I (q σ H Q z)⟩
theorem go_none : PO X none (tDO X.K 0 oNone) := po_imp po_none fun σ H Q h => by
  obtain ⟨W, B, G0, H0, G, env, P, R, hm, q⟩ := h
  exact q _ _ _ _ hm (Same.refl _) R
theorem go_some (he : GE X e ne me) : PO X (some e) (tDO X.K ne (oSome me)) := po_imp (po_some he) fun σ H Q h => by
  obtain ⟨W, B, G0, H0, G, env, P, R, hm, q⟩ := h
  refine ⟨W, B, G0, H0, G, env, _, R, hm, fun x e1 v G1 H1 p1 s1 R1 d1 => ?_⟩
  cases x with
  | int i =>
    cases dp_int d1
    exact ⟨i, rfl, q _ e1 G1 H1 p1 s1 R1⟩
  | _ => exact p1.elim
theorem sd_sl : SlR X (rDSl X.K dSl) := by
  intro pins s σ H x v vl vu lo hi sl Q I rx hs pl pu h
  obtain ⟨G, dx, P, sG, d1, hf, q⟩ := h
  unfold dSl at hf
  split at hf
  · cases dp_str d1
    exact sl_str pins s σ H _ v vl vu lo hi sl Q I rx hs pl pu ⟨_, rfl, hf.1, q _ _ G H hf.2 (Grow.refl sG) (.str _)⟩
  · obtain ⟨a, ws, rfl, h1, h2⟩ := dp_lst d1
    exact sl_list pins s σ H _ v vl vu lo hi sl Q I rx hs pl pu ⟨a, ws, rfl, SqL.of (sG _ _ h1), fun p hp => q _ _ _ _ hf (Grow.new1 sG hp) (.lst upd_same (dpAll_same (same_upd (sG.free hp)) (cut_v h2 lo hi)))⟩
  · obtain ⟨a, ws, rfl, h1, h2⟩ := dp_tup d1
    refine sl_tupA pins s σ H _ v vl vu lo hi sl Q I rx hs pl pu ⟨a, ws, rfl, same_sqT sG h1, fun e => ?_, fun _ p hp => q _ _ _ _ hf (Grow.new1 sG hp) (.tup (SqT.of upd_same) (dpAll_same (same_upd (sG.free hp)) (cut_v h2 lo hi)))⟩
    have e2 : cutD _ lo hi = _ := cut_all (xs := _) (by rw [← dpAll_len h2]; exact e)
    rw [e2] at hf
    exact q _ _ G H hf (Grow.refl sG) d1
  · exact hf.elim
where
  cut_all {xs : List D} {lo hi : Option Int} (h : HT.sIx xs.length 0 lo = 0 ∧ HT.sIx xs.length xs.length hi = xs.length) : cutD xs lo hi = xs := by
    unfold cutD
    rw [h.1, h.2]
    simp
theorem ge_slice {f : D → Option Int → Option Int → (D → Prop) → Prop} (hr : SlR X (rDSl X.K f)) (he : GE X e ne me) (hl : PO X lo (tDO X.K nl ml)) (hu : PO X hi (tDO X.K nh mh)) : GE X (.Subscript e (.Slice lo hi none p2) pos) (ne + (nl + nh)) (mSl f me ml mh) := pe_imp (pe_slice hr he hl hu) fun σ H Q h => by
  obtain ⟨W, B, G0, H0, G, env, P, R, hm, q⟩ := h
  refine ⟨W, B + (nl + nh), G0, H0, G, env, _, R.le (by omega), hm, fun x e1 v G1 H1 p1 s1 R1 d1 => ⟨W, B + nh, G0, H0, G1, e1, _, R1.le (by omega), p1, fun l e2 G2 H2 p2 s2 R2 => ⟨W, B, G0, H0, G2, e2, _, R2, p2, fun u e3 G3 H3 p3 s3 R3 => ?_⟩⟩⟩
  exact ⟨G3, x, _, R3.pub, dp_same (s2.trans s3) d1, p3, fun z w G4 H4 p4 g4 d4 => q z e3 w G4 H4 p4 (((s1.trans s2).trans s3).trans g4.eg) (R3.grow g4) d4⟩
/-- x[::-1] -/
def revS (z : Str) : Str := ⟨((Builtin.Str.strSliceIndices none none (-1) z.length).filterMap (z.cps[·]?)).toArray⟩
def dRev : D → (D → Prop) → Prop
  | .str z, P => (revS z).length ≤ sizeLine ∧ P (.str (revS z))
  | .list xs, P => P (.list xs.reverse)
  | _, _ => False
theorem pe_revS {k : Nat} {te : TE} {p1 p2 p3 : Pos} (he : PE X e te) : PE X (.Subscript e (.Slice none none (some (.UnaryOp .USub (.Constant (.int 1) k p1) p2)) p3) pos)
    (fun σ H Q => te σ H fun x H1 => ∃ z, x = .str z ∧ (revS z).length ≤ sizeLine ∧ Q (.str (revS z)) H1) := ⟨fun pins s σ H Q I h => by
  refine Subscript_ (thn (he.run pins s σ H _ I h) fun v s1 ⟨x, H1, I1, r1, z, ex, hz, q⟩ => ?_)
  subst ex
  obtain ⟨t, rfl⟩ := r1
  have part : PO X (some (.UnaryOp .USub (.Constant (.int 1) k p1) p2)) (tPart (tUn (rU fun i => .int (-i)) (tC (.int 1)))) := po_some (pe_un un_neg pe_int)
  refine wpAny_Slice (thn (po_none.run pins s1 σ H1 (fun o H2 => o = none ∧ H2 = H1) I1 ⟨rfl, rfl⟩) fun vl s2 ⟨l, H2, I2, pl, el, e2⟩ => ?_)
  subst el e2
  refine thn (po_none.run pins s2 σ H2 (fun o H3 => o = none ∧ H3 = H2) I2 ⟨rfl, rfl⟩) fun vu s3 ⟨u, H3, I3, pu, eu, e3⟩ => ?_
  subst eu e3
  refine thn (part.run pins s3 σ H3 (fun o H4 => o = some (-1) ∧ H4 = H3) I3 ⟨1, rfl, -1, rfl, rfl, rfl⟩) fun vs s4 ⟨o, H4, I4, ps, eo, e4⟩ => ?_
  subst eo e4
  obtain ⟨l', rfl, el'⟩ := IsPart.raw pl
  obtain ⟨u', rfl, eu'⟩ := IsPart.raw pu
  obtain ⟨w', rfl, ew'⟩ := IsPart.raw ps
  have I5 : Inv X pins σ H4 { s4 with heap := s4.heap.push { cls := .type "slice", data := .fields #[partValue l', partValue u', partValue w'] } } := I4.kept (t' := s4.toks) fun b ob q => Heap.get?_push_of_some _ q
  refine tail_any (T := "str") (ops := [.str z t, .ref s4.heap.objs.size]) (typeIs_str _ _ _) F.slot_str_getitem.lookup ?_ (by with_unfolding_all rfl)
  refine wpAny_getItem_str_slice (l := l') (u := u') (st := w') ⟨_, Heap.get?_push_size _ rfl, rfl, rfl⟩ ?_ ?_
  · rw [ew']
    rfl
  · have hl : l'.map (·.1) = none := el'
    have hu : u'.map (·.1) = none := eu'
    have hw : w'.map (·.1) = some (-1) := ew'
    unfold sliceMade slicePicked
    rw [hl, hu, hw]
    exact ⟨hz, .str _, H4, I5.tok _, ⟨_, rfl⟩, q⟩⟩
theorem pe_or2 {t1 t2 : TE} {m : ME} {n : Nat} {e1 : Expr} (h1 : PE X e1 t1) (h2 : PE X e1 t2) (q : ∀ σ H Q, tD X.K n m σ H Q → t1 σ H Q ∨ t2 σ H Q) : GE X e1 n m := ⟨fun pins s σ H Q I z => (q σ H Q z).elim (fun z => h1.run pins s σ H Q I z) fun z => h2.run pins s σ H Q I z⟩
/-- of a text -/
def dRevS : D → (D → Prop) → Prop
  | .str z, P => (revS z).length ≤ sizeLine ∧ P (.str (revS z))
  | _, _ => False
def dRevL : D → (D → Prop) → Prop
  | .list xs, P => P (.list xs.reverse)
  | _, _ => False
theorem ge_revS {k : Nat} {p1 p2 p3 : Pos} (he : GE X e ne me) : GE X (.Subscript e (.Slice none none (some (.UnaryOp .USub (.Constant (.int 1) k p1) p2)) p3) pos) ne (mUn dRevS me) := pe_imp (pe_revS he) fun σ H Q h => by
  obtain ⟨W, B, G0, H0, G, env, P, R, hm, q⟩ := h
  refine ⟨W, B, G0, H0, G, env, _, R, hm, fun x e1 v G1 H1 p1 s1 R1 d1 => ?_⟩
  cases x with
  | str z =>
    cases dp_str d1
    exact ⟨z, rfl, p1.1, q _ e1 _ G1 H1 p1.2 s1 R1 (.str _)⟩
  | _ => exact p1.elim
theorem ge_revL {k : Nat} {p1 p2 p3 : Pos} (he : GE X e ne me) : GE X (.Subscript e (.Slice none none (some (.UnaryOp .USub (.Constant (.int 1) k p1) p2)) p3) pos) ne (mUn dRevL me) := pe_imp (pe_revL he) fun σ H Q h => by
  obtain ⟨W, B, G0, H0, G, env, P, R, hm, q⟩ := h
  refine ⟨W, B, G0, H0, G, env, _, R, hm, fun x e1 v G1 H1 p1 s1 R1 d1 => ?_⟩
  cases x with
  | list xs =>
    obtain ⟨a, ws, rfl, h1, h2⟩ := dp_lst d1
    refine ⟨a, ws, rfl, SqL.of (R1.pub _ _ h1), fun p hp => ?_⟩
    have g := Grow.new1 (o := .lst ws.reverse) R1.pub hp
    exact q _ e1 _ _ _ p1 (s1.trans g.eg) (R1.grow g) (.lst upd_same (dpAll_same g.eg (dpAll_rev h2)))
  | _ => exact p1.elim
end
end DL
namespace DL
open PySem PySem.Spec PyProof.Rows L2
/-! ### bits -/
def Bt (b : Nat) (i : Int) : Prop := i.natAbs < 2 ^ b
theorem Bt.add {a b c : Nat} {i j : Int} (h : Bt a i) (k : Bt b j) (ha : a + 1 ≤ c) (hb : b + 1 ≤ c) : Bt c (i + j) := by
  unfold Bt at *
  have h1 : 2 ^ a * 2 ≤ 2 ^ c := by rw [← Nat.pow_succ]; exact Nat.pow_le_pow_right (by decide) ha
  have h2 : 2 ^ b * 2 ≤ 2 ^ c := by rw [← Nat.pow_succ]; exact Nat.pow_le_pow_right (by decide) hb
  omega
theorem Bt.mul {a b : Nat} {i j : Int} (h : Bt a i) (k : Bt b j) : Bt (a + b) (i * j) := by
  unfold Bt at *
  rw [Int.natAbs_mul, Nat.pow_add]
  exact Nat.mul_lt_mul'' h k
theorem Bt.mono {a b : Nat} {i : Int} (h : Bt a i) (l : a ≤ b) : Bt b i := Nat.lt_of_lt_of_le h (Nat.pow_le_pow_right (by decide) l)
theorem Bt.mulx {a b : Nat} {i j : Int} (h : Bt a i) (k : Bt b j) (l : a + b ≤ 134217728) : CMulX i j := mulx_ok h k l
theorem ct_bits {i : Int} {B : Nat} (h0 : 0 ≤ i) (h : i + (B : Int) ≤ (ctMax : Int)) : Bt 100001 i := by
  unfold Bt
  have e : ctMax = 2 ^ 100000 := by unfold ctMax; rfl
  have l : (2 : Nat) ^ 100001 = 2 ^ 100000 * 2 := Nat.pow_succ 2 100000
  rw [l, ← e]
  have p : 0 < ctMax := by rw [e]; exact Nat.two_pow_pos _
  omega
theorem bigM_bits {i : Int} (h0 : 0 ≤ i) (h : i < bigM) : Bt 127 i := by
  unfold Bt bigM at *
  have : (170141183460469231731687303715884105727 : Int) ≤ 2 ^ 127 := by decide
  omega
/-! ### the deck's dict -/
theorem key_cs : ¬ ((Sum.inr ("cells" : Str) : Key) = Sum.inr ("seed" : Str)) := by decide +kernel
theorem key_ca : ¬ ((Sum.inr ("cells" : Str) : Key) = Sum.inr ("at" : Str)) := by decide +kernel
theorem key_sa : ¬ ((Sum.inr ("seed" : Str) : Key) = Sum.inr ("at" : Str)) := by decide +kernel
theorem deck_cells (c : Addr) (seed ct : Int) : valV (deckKv c seed ct) (Sum.inr ("cells" : Str)) = some (.ref c) := valV_pos rfl
theorem deck_seed (c : Addr) (seed ct : Int) : valV (deckKv c seed ct) (Sum.inr ("seed" : Str)) = some (.int seed) := by
  unfold deckKv
  rw [valV_neg key_cs, valV_pos rfl]
theorem deck_at (c : Addr) (seed ct : Int) : valV (deckKv c seed ct) (Sum.inr ("at" : Str)) = some (.int ct) := by
  unfold deckKv
  rw [valV_neg key_ca, valV_neg key_sa, valV_pos rfl]
theorem deck_put (c : Addr) (seed ct ct' : Int) : putK (deckKv c seed ct) (Sum.inr ("at" : Str)) (.int ct') = deckKv c seed ct' := by
  unfold putK
  rw [valV_any, deck_at]
  rw [if_pos (show (some (V.int ct)).isSome = true from rfl)]
  unfold deckKv
  simp only [List.map_cons, List.map_nil, if_neg key_ca, if_neg key_sa, if_true]
theorem get_at {H : Hp} {dk c : Addr} {seed ct : Int} (h : H dk = some (.dK (deckKv c seed ct))) : DGet H dk (.str "at") (some (.int ct)) := by
  have := DGet.k (k := Sum.inr ("at" : Str)) h
  rw [deck_at] at this
  exact this
theorem get_seed {H : Hp} {dk c : Addr} {seed ct : Int} (h : H dk = some (.dK (deckKv c seed ct))) : DGet H dk (.str "seed") (some (.int seed)) := by
  have := DGet.k (k := Sum.inr ("seed" : Str)) h
  rw [deck_seed] at this
  exact this
theorem get_cells {H : Hp} {dk c : Addr} {seed ct : Int} (h : H dk = some (.dK (deckKv c seed ct))) : DGet H dk (.str "cells") (some (.ref c)) := by
  have := DGet.k (k := Sum.inr ("cells" : Str)) h
  rw [deck_cells] at this
  exact this
theorem dp_ints {K : PySem.W.Frag} {H : Hp} : ∀ ns : List Int, DpAll K H (ns.map V.int) (ns.map PyData.int)
  | [] => .nil
  | n :: r => .cons (.int n) (dp_ints r)
theorem shaped_ints (ns : List Int) : SeqAt.shaped (.list (ns.map PyData.int)) = true := by
  have h1 : PyData.canLayAll0 (ns.map PyData.int) = true := by
    induction ns with
    | nil => rfl
    | cons n r ih => rw [List.map_cons, PyData.canLayAll0, ih]; rfl
  have h2 : PyData.depthAll (ns.map PyData.int) = 0 := by
    induction ns with
    | nil => rfl
    | cons n r ih => 
      have := ih (by
        rw [List.map_cons, PyData.canLayAll0, Bool.and_eq_true] at h1
        exact h1.2)
      rw [List.map_cons, PyData.depthAll, this]
      rfl
  unfold SeqAt.shaped
  rw [PyData.canLay0, h1, PyData.depth, h2]
  rfl
/-! ### a draw -/
def spDraw : List EV → (D → Prop) → Prop := fun as P => ∃ n : Int, as = [.hd, .d (.int n)] ∧ 0 < n ∧ n < 2 ^ 64 ∧ ∀ r : Int, 0 ≤ r → r < n → P (.int r)
abbrev rMulX : R2 := rI CMulX fun i j => .int (i * j)
abbrev rModP : R2 := rI (fun _ j => 0 < j) fun i j => .int (i % j)
abbrev rAddI : R2 := rI0 fun i j => .int (i + j)
def tDraw (K : PySem.W.Frag) : TS :=
  tSeq (sDPut (tVar 0) (tC (.str "at")) (tOp rAddI (tDGet (tVar 0) (tC (.str "at"))) (tC (.int 1))))
  (tSeq (tAsg (tDGet (tVar 0) (tC (.str "at"))) (gName 2))
  (tSeq (tAsg (tOp rAddI (tDGet (tVar 0) (tC (.str "seed"))) (tOp rMulX (tOp rMulX (tC (.int 7919)) (tVar 2)) (tVar 2))) (gName 3))
  (tSeq (tIfS (tTest (tOp (rNeD K) (tDGet (tVar 0) (tC (.str "cells"))) (tLst tNil)))
    (tSeq (tAsg (tBM0 K "list" rPop (tDGet (tVar 0) (tC (.str "cells")))) (gName 4))
    (tSeq (tIfS (tTest (tOp (rI0 fun i j => .bl (decide (j ≤ i))) (tVar 4) (tOp (rI CPow fun i j => .int (i ^ j.toNat)) (tC (.int 10)) (tC (.int 18)))))
      (tSeq (tDrop (tBM K "list" rAppend (tDGet (tVar 0) (tC (.str "cells"))) (tCons (tOp (rI CDivW fun i j => .int (i / j)) (tVar 4) (tVar 1)) tNil)))
        (tRet (tOp rModP (tVar 4) (tVar 1)))) tNext)
    (tAsg (tOp rAddI (tVar 3) (tOp rMulX (tC (.int 69621)) (tVar 4))) (gName 3)))) tNext)
  (tSeq (tAsg (tOp rModP (tOp rMulX (tVar 3) (tOp rAddI (tVar 3) (tOp rMulX (tC (.int 48271)) (tVar 2)))) (tC (.int 170141183460469231731687303715884105727))) (gName 3))
  (tSeq (tAsg (tOp rModP (tOp rAddI (tOp rMulX (tVar 3) (tVar 3)) (tOp rMulX (tC (.int 104729)) (tVar 2))) (tC (.int 170141183460469231731687303715884105727))) (gName 3))
  (tRet (tOp rModP (tOp (rI CDiv fun i j => .int (i / j)) (tVar 3) (tC (.int 1048576))) (tVar 1))))))))
/-- the deck behind a draw -/
theorem deck_rw {dk c : Addr} {B : Nat} {G H H' : Hp} {cells : List Int} {seed ct : Int} (r : RW (some (dk, c)) (B + 1) G H G H) (ne : dk ≠ c) (h1 : H' dk = some (.dK (deckKv c seed ct))) (h2 : H' c = some (.lst (cells.map V.int))) (h3 : cells.length ≤ 63)
    (h4 : ∀ z ∈ cells, Builtin.Int.intBits z ≤ 1048576) (h5 : 0 ≤ seed) (h6 : seed < bigM) (h7 : 0 ≤ ct) (h8 : ct + (B : Int) ≤ (ctMax : Int)) (hf : ∀ a o, H a = some o → a ≠ dk → a ≠ c → H' a = some o) : RW (some (dk, c)) B G H G H' where
  g0 := Same.refl _
  pub := fun a o e => by
    have hH := r.pub a o e
    have n1 : a ≠ dk := fun z => by
      subst z
      rw [r.gm a (.inl rfl)] at e
      cases e
    have n2 : a ≠ c := fun z => by
      subst z
      rw [r.gm a (.inr rfl)] at e
      cases e
    exact hf a o hH n1 n2
  gm := r.gm
  inv := ⟨ne, cells, seed, ct, h1, h2, h3, h4, h5, h6, h7, h8⟩
  fr := fun a o e m => hf a o e (fun z => m (.inl z)) fun z => m (.inr z)
  pn := fun a o e e0 => by rw [e] at e0; cases e0
theorem draw_end {x n : Int} (n0 : 0 < n) : 0 ≤ x % n ∧ x % n < n := ⟨Int.emod_nonneg _ (by omega), Int.emod_lt_of_pos _ n0⟩
theorem bits_of {z : Int} {k : Nat} (h : Builtin.Int.intBits z ≤ k) : Bt k z := Nat.lt_of_lt_of_le (PyProof.Rows.natAbs_lt_pow_bits z) (Nat.pow_le_pow_right (by decide) h)
/-- from the mixing on -/
theorem draw_mix {D : Ends} {dk : Addr} {n ct mx : Int} {o4 : Option V} {H : Hp} (n0 : 0 < n) (hb : Bt 100001 ct) (hm : Bt 1250000 mx) (q : ∀ r : Int, 0 ≤ r → r < n → D.rt (.int r) H) :
    (tSeq (tAsg (tOp rModP (tOp rMulX (tVar 3) (tOp rAddI (tVar 3) (tOp rMulX (tC (.int 48271)) (tVar 2)))) (tC (.int 170141183460469231731687303715884105727))) (gName 3))
    (tSeq (tAsg (tOp rModP (tOp rAddI (tOp rMulX (tVar 3) (tVar 3)) (tOp rMulX (tC (.int 104729)) (tVar 2))) (tC (.int 170141183460469231731687303715884105727))) (gName 3))
    (tRet (tOp rModP (tOp (rI CDiv fun i j => .int (i / j)) (tVar 3) (tC (.int 1048576))) (tVar 1))))) D [some (.ref dk), some (.int n), some (.int ct), some (.int mx), o4] H := by
  have c1 : Bt 17 48271 := by unfold Bt; decide
  have c2 : Bt 17 104729 := by unfold Bt; decide
  have hs : Bt 1250001 (mx + 48271 * ct) := hm.add (c1.mul hb) (by omega) (by omega)
  have hM : ∀ x : Int, Bt 127 (x % 170141183460469231731687303715884105727) := fun x => bigM_bits (draw_end (by decide)).1 (draw_end (by decide)).2
  refine ⟨_, rfl, _, rfl, _, rfl, _, _, rfl, rfl, c1.mulx hb (by omega), _, _, rfl, rfl, _, _, rfl, rfl, hm.mulx hs (by omega), _, _, rfl, rfl, (show (0 : Int) < 170141183460469231731687303715884105727 by decide), ?_⟩
  refine ⟨_, rfl, _, rfl, _, _, rfl, rfl, (hM _).mulx (hM _) (by omega), _, rfl, _, _, rfl, rfl, c2.mulx hb (by omega), _, _, rfl, rfl, _, _, rfl, rfl, (show (0 : Int) < 170141183460469231731687303715884105727 by decide), ?_⟩
  refine ⟨_, rfl, _, _, rfl, rfl, ⟨by decide, by decide⟩, _, rfl, _, _, rfl, rfl, n0, ?_⟩
  exact q _ (draw_end n0).1 (draw_end n0).2
theorem draw_reads {K : PySem.W.Frag} {W : Wd} {B : Nat} {G H : Hp} {vs : List V} {n : Int} {Pd : PyData → Prop} {Q : VK} {nx : L2.St → Hp → Prop} (r : RW W (B + 1) G H G H) (a : ArgsOk K W G vs [.hd, .d (.int n)]) (n0 : 0 < n) (n1 : n < 2 ^ 64)
    (hP : ∀ r : Int, 0 ≤ r → r < n → Pd (.int r)) (q : ∀ x v G' H', Pd x → RW W B G H G' H' → Dr K G' v x → Q v H') : tDraw K { nx := nx, rt := Q } (vs.map some ++ [none, none, none]) H := by
  cases a with
  | cons a1 a2 =>
    cases a2 with
    | cons a2 a3 =>
      cases a3
      obtain ⟨rfl, nn⟩ := a1
      cases dp_int a2
      cases W with
      | none => exact absurd rfl nn
      | some p =>
        obtain ⟨dk, c⟩ := p
        obtain ⟨ne, cells, seed, ct, h1, h2, h3, h4, h5, h6, h7, h8⟩ := r.inv
        have h8' : (ct + 1) + (B : Int) ≤ (ctMax : Int) := by omega
        have hb : Bt 100001 (ct + 1) := ct_bits (by omega) h8'
        have c0 : Bt 13 7919 := by unfold Bt; decide
        have b1 : Bt 100014 (7919 * (ct + 1)) := (c0.mul hb).mono (by omega)
        have b2 : Bt 200015 (7919 * (ct + 1) * (ct + 1)) := (b1.mul hb).mono (by omega)
        have b3 : Bt 200016 (seed + 7919 * (ct + 1) * (ct + 1)) := (bigM_bits h5 h6).add b2 (by omega) (by omega)
        -- at = at + 1
        show tDraw K { nx := nx, rt := Q } [some (.ref dk), some (.int n), none, none, none] H
        refine ⟨_, rfl, dk, _, rfl, get_at h1, _, _, rfl, rfl, _, rfl, dk, _, rfl, DPut.k (k := Sum.inr ("at" : Str)) h1 (show (3 : Nat) < sizeLine by decide), ?_⟩
        rw [deck_put]
        generalize hH1 : upd H dk (.dK (deckKv c seed (ct + 1))) = H1
        have g1 : H1 dk = some (.dK (deckKv c seed (ct + 1))) := by rw [← hH1]; exact upd_same
        have g2 : H1 c = some (.lst (cells.map V.int)) := by rw [← hH1, upd_ne ne.symm]; exact h2
        have g3 : ∀ a o, H a = some o → a ≠ dk → a ≠ c → H1 a = some o := fun a o e z _ => by rw [← hH1, upd_ne z]; exact e
        refine ⟨_, rfl, dk, _, rfl, get_at g1, ?_⟩
        refine ⟨_, rfl, dk, _, rfl, get_seed g1, _, rfl, _, _, rfl, rfl, c0.mulx hb (by omega), _, rfl, _, _, rfl, rfl, b1.mulx hb (by omega), _, _, rfl, rfl, ?_⟩
        -- the cells
        refine ⟨_, rfl, dk, _, rfl, get_cells g1, Nat.zero_le _, fun l hl => ?_⟩
        have nl : ∀ b o, H1 b = some o → upd H1 l (.lst []) b = some o := same_upd hl
        have k1 := nl _ _ g1
        have k2 := nl _ _ g2
        have k3 : ∀ a o, H a = some o → a ≠ dk → a ≠ c → upd H1 l (.lst []) a = some o := fun a o e z1 z2 => nl _ _ (g3 a o e z1 z2)
        refine ⟨.list (cells.map PyData.int), .list [], .lst (SqL.of k2) (dp_ints cells), .lst (SqL.of upd_same) .nil, shaped_ints cells, rfl, _, rfl, ?_⟩
        generalize hH2 : upd H1 l (.lst []) = H2 at *
        by_cases hc : cells = []
        · subst hc
          refine iteF ?_
          refine draw_mix (ct := ct + 1) n0 hb (b3.mono (by omega)) fun r1 r2 r3 => ?_
          exact q _ _ G H2 (hP r1 r2 r3) (deck_rw (cells := []) r ne k1 k2 (by decide) (fun z hz => by cases hz) h5 h6 (by omega) h8' k3) (.int _)
        · obtain ⟨pre, z, rfl⟩ : ∃ pre z, cells = pre ++ [z] := ⟨cells.dropLast, cells.getLast hc, (List.dropLast_concat_getLast hc).symm⟩
          have ev : PyData.eqv (.list ((pre ++ [z]).map PyData.int)) (.list []) = false := by
            cases pre <;> rfl
          rw [ev]
          refine iteT ?_
          have hz : Bt 1048576 z := bits_of (h4 z (by simp))
          -- pop
          have pop : ((pre ++ [z]).map V.int)[((pre ++ [z]).map V.int).length - 1]? = some (.int z) := by
            rw [List.map_append]
            simp
          refine ⟨_, rfl, dk, _, rfl, get_cells k1, .inl ⟨rfl, _, SqL.of k2⟩, c, _, _, rfl, rfl, k2, pop, ?_⟩
          have dl : ((pre ++ [z]).map V.int).dropLast = pre.map V.int := by rw [List.map_append]; simp
          rw [dl]
          generalize hH3 : upd H2 c (.lst (pre.map V.int)) = H3
          have m1 : H3 dk = some (.dK (deckKv c seed (ct + 1))) := by rw [← hH3, upd_ne ne]; exact k1
          have m2 : H3 c = some (.lst (pre.map V.int)) := by rw [← hH3]; exact upd_same
          have m3 : ∀ a o, H a = some o → a ≠ dk → a ≠ c → H3 a = some o := fun a o e z1 z2 => by rw [← hH3, upd_ne z2]; exact k3 a o e z1 z2
          have lp : pre.length ≤ 63 := by
            rw [List.length_append] at h3
            omega
          have hp : ∀ y ∈ pre, Builtin.Int.intBits y ≤ 1048576 := fun y hy => h4 y (List.mem_append_left _ hy)
          refine ⟨_, rfl, _, _, rfl, rfl, ⟨by decide, by decide, by decide⟩, _, _, rfl, rfl, _, rfl, ite2 (fun e => ?_) (fun e => ?_)⟩
          · have big : (10 : Int) ^ (18 : Int).toNat ≤ z := of_decide_eq_true e
            have z0 : 0 ≤ z := Int.le_trans (by decide) big
            have bn : n.natAbs < 2 ^ 64 := by omega
            refine ⟨_, rfl, dk, _, rfl, get_cells m1, .inl ⟨rfl, _, SqL.of m2⟩, _, rfl, _, rfl, _, _, rfl, rfl, wide_div n0 bn (by decide) (by decide), c, _, _, rfl, rfl, m2, ?_, ?_⟩
            · rw [List.length_map]
              exact small1000 (by omega)
            · refine ⟨_, rfl, _, rfl, _, _, rfl, rfl, n0, ?_⟩
              have el : pre.map V.int ++ [V.int (z / n)] = (pre ++ [z / n]).map V.int := by rw [List.map_append]; rfl
              rw [el]
              have qz : Builtin.Int.intBits (z / n) ≤ 1048576 := by
                refine PyProof.Rows.intBits_le (Nat.lt_of_le_of_lt ?_ hz)
                have h0 : 0 ≤ z / n := Int.ediv_nonneg z0 (by omega)
                have h1 : z / n ≤ z := Int.ediv_le_self _ z0
                omega
              refine q _ _ G _ (hP _ (draw_end n0).1 (draw_end n0).2) (deck_rw (cells := pre ++ [z / n]) r ne ?_ upd_same (by rw [List.length_append] at h3 ⊢; exact h3) ?_ h5 h6 (by omega) h8' fun a o e z1 z2 => ?_) (.int _)
              · rw [upd_ne ne]
                exact m1
              · intro y hy
                rcases List.mem_append.mp hy with hy | hy
                · exact hp y hy
                · cases List.mem_singleton.mp hy
                  exact qz
              · rw [upd_ne z2]
                exact m3 a o e z1 z2
          · have c3 : Bt 17 69621 := by unfold Bt; decide
            have b4 : Bt 1048593 (69621 * z) := (c3.mul hz).mono (by omega)
            refine ⟨_, rfl, _, rfl, _, _, rfl, rfl, c3.mulx hz (by omega), _, _, rfl, rfl, ?_⟩
            refine draw_mix (ct := ct + 1) n0 hb ((b3.add b4 (by omega : 200016 + 1 ≤ 1048594) (by omega)).mono (by omega)) fun r1 r2 r3 => ?_
            exact q _ _ G H3 (hP r1 r2 r3) (deck_rw (cells := pre) r ne m1 m2 lp hp h5 h6 (by omega) h8' m3) (.int _)
end DL
namespace DL
open PySem PySem.Spec PyProof.Rows L2
/-! ### the deck made -/
def spDeck (K : PySem.W.Frag) : Sp := fun vs H Q _ => ∃ (a : Addr) (ns : List Int), vs = [.ref a] ∧ SqL K H a (ns.map V.int) ∧ ns.length ≤ 63 ∧ (∀ z ∈ ns, Builtin.Int.intBits z ≤ 1048576) ∧
  ∀ H' dk c, Same H H' → H dk = none → H c = none → deckInv dk c ctMax H' → Q (.ref dk) H'
def tDeck (K : PySem.W.Frag) (rList rLen : List V → Hp → VK → Prop) : TS :=
  tSeq (tAsg (tCB rList (tCons (tSl (rSlL K) (tVar 0) tNoPart (tPart (tC (.int 63)))) tNil)) (gName 1))
  (tSeq (tAsg (tOp rAddI (tC (.int 104729)) (tCB rLen (tCons (tVar 1) tNil))) (gName 2))
  (tSeq (tFor (iList K (tVar 1)) (gName 3) (tAsg (tOp rModP (tOp rAddI (tOp rMulX (tVar 2) (tC (.int 1000003))) (tVar 3)) (tC (.int 170141183460469231731687303715884105727))) (gName 2)))
  (tRet (tDisp [(tC (.str "cells"), tRevL K (tVar 1)), (tC (.str "seed"), tVar 2), (tC (.str "at"), tC (.int 0))]))))
theorem cut63 (ns : List Int) : ∃ ms : List Int, cutV (ns.map V.int) none (some 63) = ms.map V.int ∧ ms.length ≤ 63 ∧ ∀ z ∈ ms, z ∈ ns := by
  refine ⟨(ns.drop (HT.sIx ns.length 0 none)).take (HT.sIx ns.length ns.length (some 63) - HT.sIx ns.length 0 none), ?_, ?_, fun z hz => ?_⟩
  · unfold cutV
    rw [List.length_map, ← List.map_drop, ← List.map_take]
  · rw [List.length_take]
    have h1 : HT.sIx ns.length ns.length (some 63) = min 63 ns.length := HT.sIx_nat ns.length ns.length 63
    rw [h1]
    omega
  · exact List.mem_of_mem_drop (List.mem_of_mem_take hz)
theorem deck_reads {K : PySem.W.Frag} {vs : List V} {H : Hp} {Q : VK} {E : XK} {nx : L2.St → Hp → Prop} (h : spDeck K vs H Q E) :
    tDeck K (fun xs H Q => ∃ p ys, xs = [.ref p] ∧ (SqL K H p ys ∨ SqT K H p ys) ∧ ∀ l, H l = none → Q (.ref l) (upd H l (.lst ys))) (fun xs H Q => ∃ p ys, xs = [.ref p] ∧ (SqL K H p ys ∨ SqT K H p ys) ∧ Q (.int ys.length) H)
      { nx := nx, rt := Q } (vs.map some ++ [none, none, none]) H := by
  obtain ⟨a, ns, rfl, hS, hl, hb, q⟩ := h
  obtain ⟨ms, e1, l1, b1⟩ := cut63 ns
  have hb2 : ∀ z ∈ ms, Builtin.Int.intBits z ≤ 1048576 := fun z hz => hb z (b1 z hz)
  refine ⟨_, rfl, _, rfl, a, _, rfl, hS, fun p1 n1 => ⟨p1, _, rfl, .inl (SqL.of upd_same), fun c0 n2 => ?_⟩⟩
  rw [e1] at n2 ⊢
  have s2 : Same H (upd (upd H p1 (.lst (ms.map V.int))) c0 (.lst (ms.map V.int))) := (same_upd n1).trans (same_upd n2)
  have hH0 : (upd (upd H p1 (.lst (ms.map V.int))) c0 (.lst (ms.map V.int))) c0 = some (.lst (ms.map V.int)) := upd_same
  generalize upd (upd H p1 (.lst (ms.map V.int))) c0 (.lst (ms.map V.int)) = H1 at *
  refine ⟨_, rfl, c0, _, rfl, .inl (SqL.of hH0), _, _, rfl, rfl, ?_⟩
  refine ⟨_, rfl, c0, rfl, ⟨_, SqL.of hH0⟩, ?_⟩
  refine for_list (xs := ms.map V.int) (fun _ σ H' => H' = H1 ∧ ∃ (seed : Int) (o : Option V), σ = [some (.ref a), some (.ref c0), some (.int seed), o] ∧ 0 ≤ seed ∧ seed < bigM) ⟨rfl, _, none, rfl, ?_, ?_⟩ (fun i σ H' _ p => by rw [p.1]; exact SqL.of hH0) (fun i x σ H' hx p => ?_) (fun σ H' p => ?_)
  · rw [List.length_map]
    omega
  · rw [List.length_map]
    unfold bigM
    omega
  · obtain ⟨rfl, seed, o, rfl, h0, h1⟩ := p
    rw [List.getElem?_map] at hx
    obtain ⟨z, hz, rfl⟩ := Option.map_eq_some_iff.mp hx
    have bz : Bt 1048576 z := bits_of (hb2 z (List.mem_of_getElem? hz))
    have c1 : Bt 20 1000003 := by unfold Bt; decide
    refine ⟨_, rfl, _, _, rfl, rfl, (bigM_bits h0 h1).mulx c1 (by omega), _, rfl, _, _, rfl, rfl, _, _, rfl, rfl, (show (0 : Int) < 170141183460469231731687303715884105727 by decide), rfl, _, _, rfl, ?_⟩
    exact draw_end (by decide)
  · obtain ⟨rfl, seed, o, rfl, h0, h1⟩ := p
    intro dk nd
    refine ⟨_, rfl, c0, _, rfl, SqL.of ((same_upd nd) _ _ hH0), fun c nc => ⟨_, rfl, ?_⟩⟩
    have ne : dk ≠ c := fun z => by
      subst z
      rw [upd_same] at nc
      cases nc
    have ncH : H' c = none := (same_upd nd).free nc
    refine ⟨by rw [upd_ne ne]; exact upd_same, [(Sum.inr "cells", .ref c), (Sum.inr "seed", .int seed), (Sum.inr "at", .int 0)], rfl, (show (3 : Nat) ≤ 15 by decide), ?_⟩
    have mk : mergeK [] [(Sum.inr ("cells" : Str), V.ref c), (Sum.inr ("seed" : Str), .int seed), (Sum.inr ("at" : Str), .int 0)] = deckKv c seed 0 := by
      unfold mergeK
      rw [List.foldl_cons, List.foldl_cons, List.foldl_cons, List.foldl_nil]
      rw [putK_new _ (show valV ([] : List (Key × V)) (Sum.inr ("cells" : Str)) = none from rfl)]
      rw [putK_new _ (show valV ([] ++ [((Sum.inr ("cells" : Str) : Key), V.ref c)]) (Sum.inr ("seed" : Str)) = none by rw [List.nil_append, valV_neg key_cs]; rfl)]
      rw [putK_new _ (show valV ([] ++ [((Sum.inr ("cells" : Str) : Key), V.ref c)] ++ [(Sum.inr ("seed" : Str), .int seed)]) (Sum.inr ("at" : Str)) = none by
        rw [List.nil_append]
        show valV [((Sum.inr ("cells" : Str) : Key), V.ref c), (Sum.inr ("seed" : Str), .int seed)] (Sum.inr ("at" : Str)) = none
        rw [valV_neg key_ca, valV_neg key_sa]
        rfl)]
      rfl
    rw [mk]
    refine q _ dk c ?_ (s2.free nd) (s2.free ncH) ⟨ne, ms.reverse, seed, 0, upd_same, ?_, by rw [List.length_reverse]; exact l1, fun z hz => hb2 z (List.mem_reverse.mp hz), h0, h1, Int.le_refl 0, by omega⟩
    · intro b u e
      have e2 := s2 b u e
      have n1 : b ≠ dk := ne_of_none e2 nd
      have n2 : b ≠ c := ne_of_none e2 ncH
      rw [upd_ne n1, upd_ne n2, upd_ne n1]
      exact e2
    · rw [upd_ne ne.symm, upd_same, List.map_reverse]
end DL
namespace DL
open PySem PySem.Spec PyProof.Rows L2
/-! ### calls by keywords alone, in the parameters' order -/
structure CalK (P : Program) (w : World) (K : PySem.W.Frag) (mg : Str → Option Value) (base : Heap) (x : Str) (k : Nat) (ps : List Str) (c : Nat) (sp : List EV → (D → Prop) → Prop) : Prop where
  ex : ∃ f fd, FnG P w K mg base CX0 k f fd ps (spD K c sp) ∧ mg x = some (.ref f) ∧ PySem.W.keepIn K (.ref f) = true ∧ ∀ (s : Shared) (us : List Value), us.length = ps.length → BindsTo s fd ⟨[], ps.zip us⟩ (ps.zip us)
abbrev GK (X : Cx) (kws : List Keyword) (n : Nat) (m : MA) : Prop := PK X kws (tA X.K n m)
theorem pk_imp {X : Cx} {kws : List Keyword} {t t' : TA} (h : PK X kws t) (q : ∀ σ H Q, t' σ H Q → t σ H Q) : PK X kws t' := ⟨fun p pins s σ H Q I z => h.run p pins s σ H Q I (q σ H Q z)⟩
section
variable {X : Cx} {k c : Nat} {ps : List Str} {sp : List EV → (D → Prop) → Prop} {x : Str} {p pos kpos : Pos} {e : Expr} {kws : List Keyword} {m1 : MA} {me : ME} {n1 ne : Nat} {nm : Option Str}
theorem gk_nil : GK X [] 0 mNil := pk_imp pk_nil fun σ H Q h => by
  obtain ⟨W, B, G0, H0, G, env, P, R, hm, q⟩ := h
  exact q _ _ _ _ _ hm (Same.refl _) R .nil
theorem gk_cons (ha : GE X e ne me) (hr : GK X kws n1 m1) : GK X (⟨nm, e, kpos⟩ :: kws) (ne + n1) (mCons me m1) := pk_imp (pk_cons ha hr) fun σ H Q h => by
  obtain ⟨W, B, G0, H0, G, env, P, R, hm, q⟩ := h
  refine ⟨W, B + n1, G0, H0, G, env, _, R.le (by omega), hm, fun x e1 v G1 H1 p1 s1 R1 d1 => ⟨W, _, G0, H0, G1, e1, _, R1, p1, fun as e2 vs G2 H2 p2 s2 R2 d2 => ?_⟩⟩
  exact q _ e2 _ G2 H2 p2 (s1.trans s2) R2 (.cons (a := .d x) (dp_same s2 d1) d2)
theorem ge_calK (C : CalK X.prog X.w X.K X.mg X.base x k ps c sp) (r : Rm k X.A) (hg : Gl X x) (hkw : GK X kws n1 m1)
    (hall : (backToKw pos (keywordEach kws X.env)).all (·.1.isSome) = true := by rfl) (hks : (backToKw pos (keywordEach kws X.env)).filterMap (·.1) = ps := by rfl) (hdb : (x == ("__debug__" : Str)) = false := by decide)
    (hpl : ((backTo pos (starEach [] X.env)).any (·.1) || (backToKw pos (keywordEach kws X.env)).any (·.1.isNone)) = false := by rfl) : GE X (.Call (.Name x p) [] kws pos) (n1 + c) (mCall sp m1) := by
  obtain ⟨f, fd, F, hm, hk, hb⟩ := C.ex
  refine ⟨fun pins s σ H Q I h => wpAny_Call_Name_kw (ld_glob I hg hm (PySem.W.callWith_KW0 (h₀ := X.base) I.ok.mod.kin hk hall ?_ hpl) hdb)⟩
  have h1 : tCall (spD X.K c sp) [] E0 (tA X.K n1 m1) σ H Q := call_ok h
  refine thn (hkw.run pos pins s σ H _ I h1) fun us s1 ⟨vs, H1, I1, rv, q⟩ => ⟨I1.kIn, ?_⟩
  rw [hks]
  replace q : spD X.K c sp (vs ++ []) H1 Q E0 := q
  rw [List.append_nil] at q
  have n : us.length = ps.length := rv.length.symm.trans (F.len _ _ _ _ q)
  have run := F.run X.A X.stack s1 H1 ⟨[], ps.zip us⟩ us vs Q E0 r I1.env0 (hb s1 us n) rv q
  refine wpAny_call (codeAny_mono run fun res s' z => ?_)
  rcases res with err | fl
  · exact z.elim
  · cases fl with
    | ret u => exact I1.after z
    | next => exact z.elim
    | brk => exact z.elim
    | cont => exact z.elim
end
end DL
namespace DL
open PySem PySem.Spec PyProof.Rows L2
/-! ### list(text), {} -/
def strV (z : Str) : List V := z.cps.toList.map fun c => .str ⟨#[c]⟩
theorem dr_signs {K : PySem.W.Frag} {G : Hp} (z : Str) : DrAll K G (strV z) (strD z) := by
  unfold strV strD
  induction z.cps.toList with
  | nil => exact .nil
  | cons c r ih => exact .cons (.str _) ih
def dListS : List D → (D → Prop) → Prop
  | [.str z], P => z.cps.size ≤ sizeLine ∧ P (.list (strD z))
  | _, _ => False
section
variable {X : Cx}
theorem cd_listS (hc : X.calm = true) : CallR X (.type "list") (rDC X.K dListS) := by
  intro pins s σ H xs us Q I r h
  obtain ⟨G, ds, P, sG, da, hf, q⟩ := h
  unfold dListS at hf
  split at hf
  · rename_i z
    obtain ⟨v, rfl, d⟩ := all1 da
    cases dp_str d
    obtain ⟨u, rfl, ru⟩ := vals1 r
    obtain ⟨t, rfl⟩ := ru
    refine call_list_str (I.ok.hd hc) z t (fun h' tk acc cc hk hS hacc => ?_) hf.1
    have hn : H s.heap.objs.size = none := I.hok.fresh (Nat.le_refl _)
    have hlen : (strV z).length = acc.toList.length := by
      rw [strV, List.length_map, Array.length_toList, Array.length_toList, hacc.1]
    have rel : Vals (strV z) acc.toList := vals_of_at hlen fun j x u h1 h2 => by
      have e2 : acc[j]? = some u := by rw [← h2, Array.getElem?_toList]
      obtain ⟨cd, tk2, e3, e4⟩ := hacc.2 j u e2
      rw [strV, List.getElem?_map, Array.getElem?_toList, e3] at h1
      cases h1
      exact ⟨tk2, e4⟩
    refine ⟨.ref s.heap.objs.size, upd H s.heap.objs.size (.lst (strV z)), I.laid hk (Nat.le_refl _) (show ObjOk X.prog X.w _ _ _ (.lst (strV z)) from ⟨?_, acc.toList, cc, rel, ?_⟩), rfl, ?_⟩
    · rw [strV, List.length_map, Array.length_toList]
      exact hf.1
    · rw [Array.toArray_toList]
      exact hS
    · exact q _ _ _ _ hf.2 (Grow.new1 sG hn) (.lst upd_same (dr_signs z))
  · exact hf.elim
theorem ge_dict0 {pos : Pos} : GE X (.Dict [] [] pos) 0 (mC (.dict [])) := pe_imp pe_dnewK fun σ H Q h => by
  obtain ⟨W, B, G0, H0, G, env, P, R, hm, q⟩ := h
  intro p hp
  have g := Grow.new1 (o := .dK []) R.pub hp
  exact q _ env _ _ _ hm g.eg (R.grow g) (.dic upd_same .nil)
/-! ### constants of the module -/
structure GlobD (K : PySem.W.Frag) (mg : Str → Option Value) (x : Str) (y : D) : Prop where
  ex : ∃ v u, mg x = some u ∧ RelV v u ∧ ∀ G, Dr K G v y
theorem ge_gl {x : Str} {y : D} {pos : Pos} (h : GlobD X.K X.mg x y) (hg : Gl X x) (hdb : (x == ("__debug__" : Str)) = false := by decide) : GE X (.Name x pos) 0 (mC y) := by
  obtain ⟨v, u, h1, h2, h3⟩ := h.ex
  exact ge_glob hg h1 h2 h3 hdb
end
end DL
namespace DL
open PySem PySem.Spec PyProof.Rows L2
/-! ### several targets -/
def sAsg (m : ME) (g : MG) : MS := fun E env => m env fun x e1 => g x e1 E.nx
def sPar (i j : Nat) (a : MA) : MS := fun E env => a env fun as e1 => match as with
  | [.d x, .d y] => E.nx ((e1.set i (.d x)).set j (.d y))
  | _ => False
section
variable {X : Cx} {tg e a b : Expr} {me : ME} {mg : MG} {ne n1 : Nat} {vs : List Nat} {pos : Pos} {m1 : MA}
theorem gs_asg (he : GE X e ne me) (hg : GG X tg vs mg) (hs : swapsWithSole [tg] e pos.line X.env = pure false := by rfl) (hw : swappedStores [tg] e X.env = pure none := by rfl) (h1 : (assignEach [tg] X.env).map (·.2) = [assign tg X.env] := by rfl) : GS X (.Assign [tg] e pos) ne (sAsg me mg) := ps_imp (ps_asg he hg hs hw h1) fun D σ H h => by
  obtain ⟨W, B, G0, H0, G, env, E, R, hm, q⟩ := h
  refine ⟨W, B, G0, H0, G, env, _, R, hm, fun x e1 v G1 H1 p1 s1 R1 d1 => ⟨W, B, G0, H0, G1, e1, x, _, R1, d1, p1, fun e2 σ2 p2 R2 _ _ => ?_⟩⟩
  exact q.nx _ _ _ _ p2 s1 R2
theorem gs_par {i j : Nat} {x y : Str} {px py pt pt2 : Pos} {kt k2 : Nat} (hc : X.calm = true) (hN : X.N.Nodup) (hi : X.N[i]? = some x) (hj : X.N[j]? = some y) (hij : i ≠ j) (hx : X.env.scope.names.lookup x = some .local) (hy : X.env.scope.names.lookup y = some .local)
    (ha : GA X [a, b] n1 m1) (hw : swappedStores [.Tuple [.Name x px, .Name y py] kt pt] (.Tuple [a, b] k2 pt2) X.env = pure (some [x, y]))
    (hs : swapsWithSole [.Tuple [.Name x px, .Name y py] kt pt] (.Tuple [a, b] k2 pt2) pos.line X.env = pure false := by rfl) : GS X (.Assign [.Tuple [.Name x px, .Name y py] kt pt] (.Tuple [a, b] k2 pt2) pos) n1 (sPar i j m1) := ps_imp (ps_par hc hN hi hj hij hx hy ha hw hs) fun D σ H h => by
  obtain ⟨W, B, G0, H0, G, env, E, R, hm, q⟩ := h
  refine ⟨W, B, G0, H0, G, env, _, R, hm, fun as e1 us G1 H1 p1 s1 R1 a1 => ?_⟩
  split at p1
  · cases a1 with
    | cons x1 y1 =>
      cases y1 with
      | cons y1 z1 =>
        cases z1
        exact ⟨_, _, rfl, q.nx _ _ _ _ p1 s1 ((R1.set_d x1).set_d y1)⟩
  · exact p1.elim
end
end DL
namespace DL
open PySem PySem.Spec PyProof.Rows L2
/-! ### loops on data -/
/-- one turn of a comprehension: what it puts in (none: left out) -/
def lcStep (g : MG) (tt : MT) (te : ME) (vs : List Nat) (env : DEnv) (x : D) (k : Option D → Prop) : Prop := g x (wipeE env vs) fun e1 => tt e1 fun b e2 => e2 = e1 ∧ match b with
  | true => te e2 fun y e3 => e3 = e2 ∧ k (some y)
  | false => k none
section
variable {g : MG} {tt : MT} {te : ME} {vs : List Nat} {env : DEnv}
theorem lcl_cons {x : D} {xs acc : List D} {P : List D → Prop} (h : lcStep g tt te vs env x fun o => match o with
    | some y => acc.length < sizeLine ∧ mLcL g tt te vs xs (acc ++ [y]) env P
    | none => mLcL g tt te vs xs acc env P) : mLcL g tt te vs (x :: xs) acc env P := h
/-- each turn's item is a function's -/
theorem lcl_fun (f : D → Option D) : ∀ (xs acc : List D) {P : List D → Prop}, (∀ x ∈ xs, ∀ k : Option D → Prop, k (f x) → lcStep g tt te vs env x k) → acc.length + xs.length ≤ sizeLine → P (acc ++ xs.filterMap f) → mLcL g tt te vs xs acc env P
  | [], acc, P, _, _, hP => by
    rw [List.filterMap_nil, List.append_nil] at hP
    exact hP
  | x :: xs, acc, P, hx, hl, hP => by
    rw [List.length_cons] at hl
    refine lcl_cons (hx x List.mem_cons_self _ ?_)
    cases e : f x with
    | some y =>
      refine ⟨by omega, lcl_fun f xs (acc ++ [y]) (fun z hz => hx z (List.mem_cons_of_mem _ hz)) (by rw [List.length_append]; simp; omega) ?_⟩
      rw [List.filterMap_cons, e] at hP
      rw [List.append_assoc]
      exact hP
    | none =>
      refine lcl_fun f xs acc (fun z hz => hx z (List.mem_cons_of_mem _ hz)) (by omega) ?_
      rw [List.filterMap_cons, e] at hP
      exact hP
/-- each turn's item is any of some -/
theorem lcl_any (A : D → Prop) : ∀ (xs acc : List D) {P : List D → Prop}, (∀ x ∈ xs, ∀ k : Option D → Prop, (∀ y, A y → k (some y)) → lcStep g tt te vs env x k) → acc.length + xs.length ≤ sizeLine →
    (∀ ys, ys.length = xs.length → (∀ y ∈ ys, A y) → P (acc ++ ys)) → mLcL g tt te vs xs acc env P
  | [], acc, P, _, _, hP => by
    have := hP [] rfl (fun y hy => by cases hy)
    rw [List.append_nil] at this
    exact this
  | x :: xs, acc, P, hx, hl, hP => by
    rw [List.length_cons] at hl
    refine lcl_cons (hx x List.mem_cons_self _ fun y hy => ⟨by omega, ?_⟩)
    refine lcl_any A xs (acc ++ [y]) (fun z hz => hx z (List.mem_cons_of_mem _ hz)) (by rw [List.length_append]; simp; omega) fun ys h1 h2 => ?_
    rw [List.append_assoc]
    refine hP (y :: ys) (by rw [List.length_cons, List.length_cons, h1]) fun z hz => ?_
    rcases List.mem_cons.mp hz with rfl | hz
    · exact hy
    · exact h2 z hz
end
/-- a for by an invariant -/
theorem forl_inv {g : MG} {b : MS} {xs : List D} {E : DEnds} {env : DEnv} (I : Nat → DEnv → Prop) (h0 : I 0 env)
    (hs : ∀ (i : Nat) x env (E' : DEnds), xs[i]? = some x → I i env → (∀ e, I (i + 1) e → E'.nx e) → (∀ e, I (i + 1) e → E'.ct e) → (∀ e, E.nx e → E'.bk e) → E'.rt = E.rt → g x env fun e1 => b E' e1) (hd : ∀ e, I xs.length e → E.nx e) : sForL g b xs E env := by
  have key : ∀ (ys : List D) (k : Nat) (env : DEnv), xs.drop k = ys → k + ys.length = xs.length → I k env → sForL g b ys E env := by
    intro ys
    induction ys with
    | nil =>
      intro k env _ hl hI
      have e : k = xs.length := by simpa using hl
      subst e
      exact hd env hI
    | cons y r ih =>
      intro k env hk hl hI
      have hx : xs[k]? = some y := by
        have := congrArg (fun l => l[0]?) hk
        simpa using this
      have hr : xs.drop (k + 1) = r := by
        have := congrArg (fun l => l.drop 1) hk
        simpa using this
      rw [List.length_cons] at hl
      exact hs k y env { nx := sForL g b r E, rt := E.rt, bk := E.nx, ct := sForL g b r E } hx hI (fun e z => ih (k + 1) e hr (by omega) z) (fun e z => ih (k + 1) e hr (by omega) z) (fun e z => z) rfl
  exact key xs 0 env rfl (by simp) h0
theorem strD_len (z : Str) : (strD z).length = z.length := by
  rw [strD, List.length_map, Array.length_toList]
  rfl
theorem atI_lt {α : Type} {xs : List α} {i : Int} (h0 : 0 ≤ i) (h1 : i < xs.length) : ∃ x, atI xs i = some x ∧ x ∈ xs ∧ xs[i.toNat]? = some x := by
  have hl : i.toNat < xs.length := by omega
  refine ⟨xs[i.toNat], ?_, List.getElem_mem hl, List.getElem?_eq_getElem hl⟩
  unfold atI ixN
  rw [if_pos h0, if_pos h1]
  exact List.getElem?_eq_getElem hl
end DL
namespace DL
open PySem PySem.Spec PyProof.Rows L2
/-! ### a star among the targets -/
/-- i targets, the star, the others -/
def starred (i n : Nat) (xs : List V) (p : Addr) : List V := xs.take i ++ [.ref p] ++ (xs.drop i).drop (xs.length + 1 - n)
def starMid (i n : Nat) (xs : List V) : List V := (xs.drop i).take (xs.length + 1 - n)
def gStar (Sq : Hp → Addr → List V → Prop) (i n : Nat) (t : TGs) : TG := fun v σ H Q => ∃ a xs, v = .ref a ∧ Sq H a xs ∧ i < n ∧ n ≤ xs.length + 1 ∧ xs.length ≤ 16384 ∧ ∀ p, H p = none → t (starred i n xs p) σ (upd H p (.lst (starMid i n xs))) Q
theorem vals_take : ∀ (n : Nat) {xs : List V} {us : List Value}, Vals xs us → Vals (xs.take n) (us.take n)
  | 0, _, _, _ => .nil
  | _ + 1, _, _, .nil => .nil
  | n + 1, _, _, .cons r rr => .cons r (vals_take n rr)
theorem vals_drop : ∀ (n : Nat) {xs : List V} {us : List Value}, Vals xs us → Vals (xs.drop n) (us.drop n)
  | 0, _, _, r => r
  | _ + 1, _, _, .nil => .nil
  | n + 1, _, _, .cons _ rr => vals_drop n rr
section
variable {X : Cx} {es : List Expr} {pos : Pos} {kk n i : Nat} {t : TGs}
theorem pg_starL (hc : X.calm = true) (h : PGs X es t) (hn : (assignEach es X.env).length = n := by rfl) (hst : (assignEach es X.env).findIdx? (·.1) = some i := by rfl) :
    PG X (.Tuple es kk pos) (gStar (SqL X.K) i n t) := by
  refine ⟨fun pins s σ H v u Q I r hw => ?_⟩
  obtain ⟨a, xs, e1, hq, h1, h2, h3, hw⟩ := hw
  subst e1
  cases r
  obtain ⟨its, rv, p0, hz⟩ := I.list hq
  have hL : s.heap.IsList a its.toArray := p0.isList
  have hlen := rv.length
  have lt1 : a < s.heap.objs.size := by
    obtain ⟨o, ho, _⟩ := hL
    exact Heap.lt_size ho
  have hne : a ≠ s.heap.objs.size := Nat.ne_of_lt lt1
  rw [assign_Tuple]
  refine wpAny_bind (wpAny_standAt ?_)
  unfold unpack
  rw [hn, hst]
  refine wpAny_bind (wpAny_holding ?_)
  unfold unpackItems
  refine wpAny_bind ?_
  unfold notIterableAtAll
  refine wpAny_bind (wpAny_specialOf hL.typeIs PySem.F.slot_list_iter.lookup (wpAny_pure ?_))
  rw [if_neg (by decide)]
  refine wpAny_bind (wpAny_holding (wpAny_pyIter_list hL ?_))
  refine wpAny_bind (wpAny_holding (PySem.W.kun_draw hne i 0 _ _ ⟨_, Heap.get?_push_size _ rfl, rfl, rfl⟩ (hL.push _) (by rw [List.size_toArray]; omega) fun hp1 hit1 hs1 => ?_))
  have hL1 : hp1.IsList a its.toArray := (hL.push _).extBut hs1.extBut hne
  rw [Nat.zero_add] at hit1
  have b1 : s.heap.objs.size < hp1.objs.size := by
    obtain ⟨o, ho, _⟩ := hit1
    exact Heap.lt_size ho
  have b2 : a < hp1.objs.size := by
    obtain ⟨o, ho, _⟩ := hL1
    exact Heap.lt_size ho
  have tl : ((List.drop 0 its.toArray.toList).take i).length = i := by
    rw [List.drop_zero, List.length_take]
    show min i its.length = i
    omega
  rw [if_neg (by rw [tl]; omega)]
  refine wpAny_bind (wpAny_holding (PySem.W.kun_collect (s := { s with heap := hp1 }) (T := "list_iterator") (.inr (.inr (.inl rfl))) (Walks.list (A := X.A.in1) (I.ok.hd hc) s.heap.objs.size a hne its.toArray) (fun j u st => st.1.typeIs) (k := i) (by rw [List.size_toArray]; omega) ⟨hit1, hL1⟩ b1 b2 (fun hp2 tk hk => ?_) (by rw [List.size_toArray, ← hlen]; exact hz)))
  have dl : (its.toArray.toList.drop i).length = its.length - i := by
    rw [List.length_drop]
  have dm : (its.toArray.toList.drop i).length - (n - 1 - i) = xs.length + 1 - n := by
    rw [dl, hlen]
    omega
  rw [if_neg (by rw [dl]; omega), dm]
  have ke : ∀ b o, s.heap.get? b = some o → hp2.get? b = some o := fun b o e => by
    have nb : b ≠ s.heap.objs.size := Nat.ne_of_lt (Heap.lt_size e)
    exact hk b o nb (hs1.extBut b o nb (Heap.get?_push_of_some _ e))
  have I2 : Inv X pins σ H { s with heap := hp2, toks := tk } := I.kept (t' := tk) ke
  have rm : Vals (starMid i n xs) ((its.toArray.toList.drop i).take (xs.length + 1 - n)) := vals_take _ (vals_drop i rv)
  have zl : (starMid i n xs).length ≤ sizeLine := by
    unfold starMid
    rw [List.length_take, List.length_drop]
    omega
  refine wpAny_bind (wpAny_newList ?_ (by rw [← rm.length]; exact zl))
  have hfr : H hp2.objs.size = none := I2.hok.fresh (Nat.le_refl _)
  refine wpAny_pure ?_
  have I3 : Inv X pins σ (upd H hp2.objs.size (.lst (starMid i n xs))) { s with heap := hp2.push { cls := .type "list", data := .seq ((its.toArray.toList.drop i).take (xs.length + 1 - n)).toArray }, toks := tk } :=
    I2.laid (t' := tk) (fun b u e => Heap.get?_push_of_some _ e) (Nat.le_refl _) ⟨zl, _, 0, rm, Heap.get?_push_size _ rfl⟩
  exact h.run pins _ σ _ _ _ Q I3 (((vals_take i rv).append (.cons (show RelV (.ref hp2.objs.size) (.ref hp2.objs.size) from rfl) .nil)).append (vals_drop _ (vals_drop i rv))) (hw _ hfr)
theorem pg_starT (hc : X.calm = true) (h : PGs X es t) (hn : (assignEach es X.env).length = n := by rfl) (hst : (assignEach es X.env).findIdx? (·.1) = some i := by rfl) :
    PG X (.Tuple es kk pos) (gStar (SqT X.K) i n t) := by
  refine ⟨fun pins s σ H v u Q I r hw => ?_⟩
  obtain ⟨a, xs, e1, hq, h1, h2, h3, hw⟩ := hw
  subst e1
  cases r
  obtain ⟨its, rv, p0, hz⟩ := I.tuple hq
  have hL : IsTup s.heap a its.toArray := p0
  have hlen := rv.length
  have lt1 : a < s.heap.objs.size := by
    obtain ⟨o, ho, _⟩ := hL
    exact Heap.lt_size ho
  have hne : a ≠ s.heap.objs.size := Nat.ne_of_lt lt1
  rw [assign_Tuple]
  refine wpAny_bind (wpAny_standAt ?_)
  unfold unpack
  rw [hn, hst]
  refine wpAny_bind (wpAny_holding ?_)
  unfold unpackItems
  refine wpAny_bind ?_
  unfold notIterableAtAll
  refine wpAny_bind (wpAny_specialOf hL.typeIs PySem.F.slot_tuple_iter.lookup (wpAny_pure ?_))
  rw [if_neg (by decide)]
  refine wpAny_bind (wpAny_holding (iter_tuple hL ?_))
  refine wpAny_bind (wpAny_holding (draw_tuple hne i 0 _ _ ⟨_, Heap.get?_push_size _ rfl, rfl, rfl⟩ (hL.push _) (by rw [List.size_toArray]; omega) fun hp1 hit1 hs1 => ?_))
  have hL1 : IsTup hp1 a its.toArray := (hL.push _).extBut hs1.extBut hne
  rw [Nat.zero_add] at hit1
  have b1 : s.heap.objs.size < hp1.objs.size := by
    obtain ⟨o, ho, _⟩ := hit1
    exact Heap.lt_size ho
  have b2 : a < hp1.objs.size := by
    obtain ⟨o, ho, _⟩ := hL1
    exact Heap.lt_size ho
  have tl : ((List.drop 0 its.toArray.toList).take i).length = i := by
    rw [List.drop_zero, List.length_take]
    show min i its.length = i
    omega
  rw [if_neg (by rw [tl]; omega)]
  refine wpAny_bind (wpAny_holding (PySem.W.kun_collect (s := { s with heap := hp1 }) (T := "tuple_iterator") (.inr (.inr (.inr rfl))) (Walks.tuple (A := X.A.in1) (I.ok.hd hc) s.heap.objs.size a hne its.toArray) (fun j u st => st.1.typeIs) (k := i) (by rw [List.size_toArray]; omega) ⟨hit1, hL1⟩ b1 b2 (fun hp2 tk hk => ?_) (by rw [List.size_toArray, ← hlen]; exact hz)))
  have dl : (its.toArray.toList.drop i).length = its.length - i := by
    rw [List.length_drop]
  have dm : (its.toArray.toList.drop i).length - (n - 1 - i) = xs.length + 1 - n := by
    rw [dl, hlen]
    omega
  rw [if_neg (by rw [dl]; omega), dm]
  have ke : ∀ b o, s.heap.get? b = some o → hp2.get? b = some o := fun b o e => by
    have nb : b ≠ s.heap.objs.size := Nat.ne_of_lt (Heap.lt_size e)
    exact hk b o nb (hs1.extBut b o nb (Heap.get?_push_of_some _ e))
  have I2 : Inv X pins σ H { s with heap := hp2, toks := tk } := I.kept (t' := tk) ke
  have rm : Vals (starMid i n xs) ((its.toArray.toList.drop i).take (xs.length + 1 - n)) := vals_take _ (vals_drop i rv)
  have zl : (starMid i n xs).length ≤ sizeLine := by
    unfold starMid
    rw [List.length_take, List.length_drop]
    omega
  refine wpAny_bind (wpAny_newList ?_ (by rw [← rm.length]; exact zl))
  have hfr : H hp2.objs.size = none := I2.hok.fresh (Nat.le_refl _)
  refine wpAny_pure ?_
  have I3 : Inv X pins σ (upd H hp2.objs.size (.lst (starMid i n xs))) { s with heap := hp2.push { cls := .type "list", data := .seq ((its.toArray.toList.drop i).take (xs.length + 1 - n)).toArray }, toks := tk } :=
    I2.laid (t' := tk) (fun b u e => Heap.get?_push_of_some _ e) (Nat.le_refl _) ⟨zl, _, 0, rm, Heap.get?_push_size _ rfl⟩
  exact h.run pins _ σ _ _ _ Q I3 (((vals_take i rv).append (.cons (show RelV (.ref hp2.objs.size) (.ref hp2.objs.size) from rfl) .nil)).append (vals_drop _ (vals_drop i rv))) (hw _ hfr)
end
end DL
namespace DL
open PySem PySem.Spec PyProof.Rows L2
/-! ### repr and str of any data -/
def dReprA : List D → (D → Prop) → Prop
  | [x], P => (x.showable = true ∧ noDict x = true) ∧ x.depth ≤ 60 ∧ x.shown.length ≤ sizeLine ∧ P (.str x.shown)
  | _, _ => False
def dStrA : List D → (D → Prop) → Prop
  | [.int i], P => i.natAbs.log2 < 1920 ∧ P (.str (toString i))
  | [.str z], P => P (.str z)
  | [.none], P => P (.str "None")
  | _, _ => False
section
variable {X : Cx}
theorem cd_reprA (hg : X.A.guards = some []) (hu : X.A.units + 64 < cLine) : CallR X (.builtin "repr") (rDC X.K dReprA) := by
  intro pins s σ H xs us Q I r h
  obtain ⟨G, ds, P, sG, da, hf, q⟩ := h
  unfold dReprA at hf
  split at hf
  · rename_i x _
    obtain ⟨v, rfl, d⟩ := all1 da
    obtain ⟨⟨h1, h2⟩, h3, h4, hP⟩ := hf
    have d2 := dr_dp (dp_same sG d) h2
    have q' := q _ _ G H hP (Grow.refl sG) (.str _)
    cases d with
    | int i =>
      obtain ⟨u, rfl, t, rfl⟩ := vals1 r
      exact PySem.P.repr_of_int (by simpa [PyData.showable] using h1) ⟨.str _, H, I.tok _, ⟨_, rfl⟩, q'⟩
    | str z =>
      obtain ⟨u, rfl, t, rfl⟩ := vals1 r
      exact PySem.P.repr_of_str ⟨.str _, H, I.tok _, ⟨_, rfl⟩, q'⟩ h4
    | bl b =>
      obtain ⟨u, rfl, r1⟩ := vals1 r
      cases r1
      exact PySem.P.repr_of_bool ⟨.str _, H, I.tok _, ⟨_, rfl⟩, q'⟩
    | non =>
      obtain ⟨u, rfl, r1⟩ := vals1 r
      cases r1
      exact PySem.P.repr_of_none ⟨.str _, H, I.tok _, ⟨_, rfl⟩, q'⟩
    | lst a b => exact repr_ref hg hu I r d2 h1 h2 h3 h4 q'
    | tup a b => exact repr_ref hg hu I r d2 h1 h2 h3 h4 q'
    | dic a b => simp [noDict] at h2
  · exact hf.elim
theorem cd_strA : CallR X (.type "str") (rDC X.K dStrA) := by
  intro pins s σ H xs us Q I r h
  obtain ⟨G, ds, P, sG, da, hf, q⟩ := h
  unfold dStrA at hf
  split at hf
  · obtain ⟨v, rfl, d⟩ := all1 da
    cases dp_int d
    exact call_str_int pins s σ H _ us Q I r ⟨_, rfl, hf.1, q _ _ G H hf.2 (Grow.refl sG) (.str _)⟩
  · obtain ⟨v, rfl, d⟩ := all1 da
    cases dp_str d
    obtain ⟨u, rfl, t, rfl⟩ := vals1 r
    exact PySem.P.str_of_str ⟨.str _, H, I, ⟨_, rfl⟩, q _ _ G H hf (Grow.refl sG) (.str _)⟩
  · obtain ⟨v, rfl, d⟩ := all1 da
    cases dp_non d
    obtain ⟨u, rfl, r1⟩ := vals1 r
    cases r1
    exact PySem.P.str_of_none ⟨.str _, H, I.tok _, ⟨_, rfl⟩, q _ _ G H hf (Grow.refl sG) (.str _)⟩
  · exact hf.elim
end
/-! ### found.extend(..) -/
def sExt (i : Nat) (m : ME) : MS := fun E env => (∃ xs, env[i]? = some (.own xs)) ∧ m env fun x e1 => match e1[i]?, x with
  | some (.own xs), .list ys => xs.length + ys.length ≤ sizeLine ∧ E.nx (e1.set i (.own (xs ++ ys)))
  | _, _ => False
section
variable {X : Cx} {e : Expr} {me : ME} {ne : Nat} {pos : Pos}
theorem gs_extend {i : Nat} {x : Str} {px apos cpos : Pos} (hN : X.N[i]? = some x) (hv : Vis X.env.scope x) (he : GE X e ne me) (hd : (x == ("__debug__" : Str)) = false := by decide)
    (hcd : (x == ("__classdict__" : Str)) = false := by decide) (hbase : attributeBase (.Name x px) "extend" X.env (eval (.Name x px) X.env) = eval (.Name x px) X.env := by rfl)
    (hfew : ((backTo cpos (starEach [e] X.env)).all (fun x => !x.1) && (backToKw cpos (keywordEach [] X.env)).all (fun x => x.1.isSome) && decide ([e].length + ([] : List Keyword).length + (if ([] : List Keyword).isEmpty then 0 else 1) < 30)) = true := by rfl)
    (hline : (apos.endLine == cpos.line) = true := by rfl) (hs : starEach [e] X.env = (false, eval e X.env) :: starEach [] X.env := by rfl) (hplain : (backTo cpos (starEach ([] : List Expr) X.env)).any (·.1) = false := by rfl)
    (hsw : swapsWith (.Call (.Attribute (.Name x px) "extend" apos) [e] [] cpos) none pos.line X.env = pure false := by rfl) :
    GS X (.Expr (.Call (.Attribute (.Name x px) "extend" apos) [e] [] cpos) pos) ne (sExt i me) :=
  ps_imp (ps_expr (pe_bm PySem.F.plainAttrs_list PySem.F.slot_list_extend PySem.F.type_list_extend mt_extend (pe_var hN hv hd hcd) (pa_cons he pa_nil hs) hbase hfew hline hs hplain) hsw) fun D σ H h => by
  obtain ⟨W, B, G0, H0, G, env, E, R, ⟨⟨xs, hx⟩, hm⟩, q⟩ := h
  obtain ⟨l, vs, e1, hl, hg, h0, hmu, hq⟩ := R.get_own hx
  refine ⟨_, e1, .inl ⟨rfl, vs, SqL.of hl⟩, W, B, G0, H0, G, env, _, R, hm, fun y e2 v G2 H2 p2 s2 R2 d2 => ?_⟩
  split at p2
  · rename_i zs ys hy
    obtain ⟨l2, us, f1, hl2, hg2, h02, hmu2, hq2⟩ := R2.get_own hy
    rw [e1] at f1
    cases f1
    obtain ⟨b, ws, rfl, hb, hqb⟩ := dp_lst d2
    refine ⟨l, b, us, ws, rfl, rfl, hl2, R2.pub _ _ hb, by rw [dpAll_len hq2, dpAll_len hqb]; exact p2.1, ?_⟩
    exact q.nx _ _ _ _ p2.2 s2 (R2.write hy e1 hl2 hg2 h02 hmu2 (dpAll_app hq2 hqb))
  · exact p2.elim
end
/-! ### enumerate -/
def pairs (ds : List D) : List D := ds.mapIdx fun i x => .tuple [.int (i : Int), x]
theorem itd_enum {K : PySem.W.Frag} {G : Hp} {a : Addr} {us : List V} {ds : List D} (h1 : G a = some (.lst us)) (h2 : DrAll K G us ds) : ItD K G (Ite K a) (pairs ds) := fun G1 H1 s1 s2 i => by
  have q : SqL K H1 a us := SqL.of ((s1.trans s2) _ _ h1)
  refine ⟨fun x hx => ?_, fun hl => ?_⟩
  · unfold pairs at hx
    rw [List.getElem?_mapIdx, Option.map_eq_some_iff] at hx
    obtain ⟨y, hy, rfl⟩ := hx
    obtain ⟨v, e, d⟩ := dpAll_get h2 hy
    refine ⟨⟨us, v, q, e⟩, fun w H2 z => ?_⟩
    obtain ⟨T, u, rfl, hT, rfl, z⟩ := z
    have := z us q
    rw [e] at this
    cases this
    exact ⟨_, Grow.new1 s2 hT, .tup (SqT.of upd_same) (.cons (.int _) (.cons (dp_same (s1.trans (same_upd (s2.free hT))) d) .nil))⟩
  · refine ⟨us, q, ?_⟩
    unfold pairs at hl
    rw [List.length_mapIdx] at hl
    rw [dpAll_len h2]
    exact hl
def miEnum (a : MA) : MI := fun env P => a env fun as e1 => match as with
  | [.d (.list xs)] => P (pairs xs) e1
  | _ => False
theorem gi_enum {X : Cx} {e : Expr} {m1 : MA} {n1 : Nat} {p pos tpos : Pos} {elts : List Expr} {kk : Nat} (hg : Gl X "enumerate") (hm : X.mg "enumerate" = none) (ha : GA X [e] n1 m1) (hs : starEach [e] X.env = [(false, eval e X.env)] := by rfl) :
    GI X (.Tuple elts kk tpos) (.Call (.Name "enumerate" p) [e] [] pos) n1 (miEnum m1) := pi_imp (pi_enum hg hm ha hs) fun σ H R h => by
  obtain ⟨W, B, G0, H0, G, env, P, Rl, hm1, q⟩ := h
  refine ⟨W, B, G0, H0, G, env, _, Rl, hm1, fun as e1 us G1 H1 p1 s1 R1 a1 => ?_⟩
  split at p1
  · cases a1 with
    | cons x1 y1 =>
      cases y1
      obtain ⟨a, ws, rfl, h1, h2⟩ := dp_lst x1
      exact ⟨a, ws, rfl, SqL.of (R1.pub _ _ h1), q _ _ _ _ _ p1 s1 R1 (itd_enum h1 h2)⟩
  · exact p1.elim
end DL
namespace DL
open PySem PySem.Spec PyProof.Rows L2
/-! ### a tuple times 0, times 1 -/
theorem tup_times0 (l : Addr) (items : Array Value) (n : Nat) (dd : Option Addr) (sl : Array (Option Value)) (u : Tok) (c1 : (items.isEmpty || (0 : Int) == 1) = false) :
    Meets (Builtin.«tuple.__mul__» ⟨[.ref l, .int 0 u], []⟩) (fun _ R s => s.heap.get? l = some ⟨.type "tuple", dd, .seq items n, sl⟩ ∧ R (.ok (.ret (.ref s.heap.objs.size))) { s with heap := s.heap.push { cls := .type "tuple", data := .seq #[] } }) :=
  .of_wp fun prog w A R s h => by
    obtain ⟨hp, g, d, tk, os⟩ := s
    obtain ⟨hl, h⟩ := h
    have f1 := AutoSeq1.idx_int
    wp_walk using wpAny_loadPart' hl
    repeat (first
      | (refine wpAny_ite_false (decide_eq_false (by decide)) ?_; wp_walk using wpAny_loadPart' hl)
      | (refine wpAny_ite_false (decide_eq_false (by rw [c1]; exact Bool.false_ne_true)) ?_; wp_walk using wpAny_loadPart' hl)
      | (refine wpAny_ite_true (decide_eq_true (by rfl)) ?_; wp_walk using wpAny_loadPart' hl))
    exact ⟨_, rfl, h⟩
theorem tup_times1 (l : Addr) (items : Array Value) (n : Nat) (dd : Option Addr) (sl : Array (Option Value)) (u : Tok) :
    Meets (Builtin.«tuple.__mul__» ⟨[.ref l, .int 1 u], []⟩) (fun _ R s => s.heap.get? l = some ⟨.type "tuple", dd, .seq items n, sl⟩ ∧ R (.ok (.ret (.ref l))) s) :=
  .of_wp fun prog w A R s h => by
    obtain ⟨hp, g, d, tk, os⟩ := s
    obtain ⟨hl, h⟩ := h
    have f1 := AutoSeq1.idx_int
    wp_walk using wpAny_loadPart' hl
    repeat (first
      | (refine wpAny_ite_false (decide_eq_false (by decide)) ?_; wp_walk using wpAny_loadPart' hl)
      | (refine wpAny_ite_true (decide_eq_true (by cases items.isEmpty <;> rfl)) ?_; wp_walk using wpAny_loadPart' hl))
    exact ⟨_, rfl, h⟩
def dMulT : D → D → (D → Prop) → Prop
  | .tuple xs, .int k, P => (xs ≠ [] ∧ xs.length ≤ 1000 ∧ 0 ≤ k ∧ k ≤ 1000) ∧ P (.tuple (List.replicate k.toNat xs).flatten)
  | _, _, _ => False
section
variable {X : Cx}
theorem od_mulT : OpR X (binaryOp .Mult) (rD2 X.K dMulT) := by
  intro pins s σ H x y v u Q I rx ry h
  obtain ⟨G, dx, dy, P, sG, d1, d2, hf, q⟩ := h
  unfold dMulT at hf
  split at hf
  · rename_i xs k
    obtain ⟨a, us, rfl, h1, h2⟩ := dp_tup d1
    cases dp_int d2
    obtain ⟨⟨hne, hz, k0, k1⟩, hP⟩ := hf
    have une : us ≠ [] := fun e => by
      subst e
      cases h2
      exact hne rfl
    have hT := same_sqT sG h1
    by_cases k2 : 2 ≤ k
    · refine op_repT pins s σ H _ _ v u Q I rx ry ⟨a, _, us, rfl, rfl, hT, une, k2, k1, by rw [dpAll_len h2]; exact hz, fun p hp => ?_⟩
      exact q _ _ _ _ hP (Grow.new1 sG hp) (.tup (SqT.of upd_same) (dpAll_same (same_upd (sG.free hp)) (dpAll_flat h2 _)))
    · cases rx
      obtain ⟨t, rfl⟩ := ry
      obtain ⟨its, r, ⟨⟨cls, dd, data, sl⟩, ho, hc, n, hd⟩, hs⟩ := I.tuple hT
      simp only at hc hd
      subst hc hd
      have hk : k = 0 ∨ k = 1 := by omega
      rcases hk with rfl | rfl
      · have c1 : (its.toArray.isEmpty || (0 : Int) == 1) = false := by
          cases its with
          | nil =>
            cases r
            exact absurd rfl une
          | cons _ _ => rfl
        refine wpAny_binaryOp_repeat_ref (T := "tuple") (U := "int") (by decide) ⟨_, ho, rfl⟩ (fun s' => typeIs_int s' 0 t) noFill_tuple_mul PySem.F.fills_int_mul PySem.F.slot_int_rmul repeat_tuple PySem.F.slot_int_index.lookup
          (call_meets PySem.F.slot_int_rmul (typeIs_int s 0 t) PySem.F.entry_int_rmul (PySem.F.args_int_rmul_2 _ _) (int_rmul_tuple 0 t a its.toArray n dd sl)
            ⟨ho, rfl, ⟨_, ho, rfl⟩, call_meets PySem.F.slot_tuple_mul ⟨_, ho, rfl⟩ PySem.F.entry_tuple_mul (PySem.F.args_tuple_mul_2 _ _) (tup_times0 a its.toArray n dd sl t c1) ⟨ho, ?_⟩⟩)
        have hf2 : H s.heap.objs.size = none := I.hok.fresh (Nat.le_refl _)
        refine ⟨.ref s.heap.objs.size, _, I.laid (t' := s.toks) (o := .tup []) (fun b ob q => Heap.get?_push_of_some _ q) (Nat.le_refl _) ?_, rfl, q _ _ _ _ hP (Grow.new1 sG hf2) (.tup (SqT.of upd_same) .nil)⟩
        exact ⟨by decide, _, .nil, IsTup.new _ _⟩
      · refine wpAny_binaryOp_repeat_ref (T := "tuple") (U := "int") (by decide) ⟨_, ho, rfl⟩ (fun s' => typeIs_int s' 1 t) noFill_tuple_mul PySem.F.fills_int_mul PySem.F.slot_int_rmul repeat_tuple PySem.F.slot_int_index.lookup
          (call_meets PySem.F.slot_int_rmul (typeIs_int s 1 t) PySem.F.entry_int_rmul (PySem.F.args_int_rmul_2 _ _) (int_rmul_tuple 1 t a its.toArray n dd sl)
            ⟨ho, rfl, ⟨_, ho, rfl⟩, call_meets PySem.F.slot_tuple_mul ⟨_, ho, rfl⟩ PySem.F.entry_tuple_mul (PySem.F.args_tuple_mul_2 _ _) (tup_times1 a its.toArray n dd sl t) ⟨ho, ?_⟩⟩)
        refine ⟨.ref a, H, I, rfl, q _ _ G H hP (Grow.refl sG) ?_⟩
        have e : (List.replicate (1 : Int).toNat xs).flatten = xs := by
          show (List.replicate 1 xs).flatten = xs
          simp
        rw [e]
        exact d1
  · exact hf.elim
end
/-! ### a sum of lists that is one's own -/
def mAddF (ma mb : ME) : MF := fun env P => ma env fun x e1 => mb e1 fun y e2 => match x, y with
  | .list a, .list b => a.length + b.length ≤ sizeLine ∧ P (a ++ b) e2
  | _, _ => False
section
variable {X : Cx} {a b : Expr} {na nb : Nat} {ma mb : ME} {pos : Pos}
theorem gf_add (ha : GE X a na ma) (hb : GE X b nb mb) : GF X (.BinOp a .Add b pos) (na + nb) (mAddF ma mb) := pe_imp (pe_op op_cat ha hb) fun σ H Q h => by
  obtain ⟨W, B, G0, H0, G, env, P, R, hm, q⟩ := h
  refine ⟨W, B + nb, G0, H0, G, env, _, R.le (by omega), hm, fun x e1 v G1 H1 p1 s1 R1 d1 => ?_⟩
  refine ⟨W, B, G0, H0, G1, e1, _, R1, p1, fun y e2 u G2 H2 p2 s2 R2 d2 => ?_⟩
  split at p2
  · obtain ⟨a1, us, rfl, h1, h2⟩ := dp_lst (dp_same s2 d1)
    obtain ⟨b1, ws, rfl, h3, h4⟩ := dp_lst d2
    refine ⟨a1, b1, us, ws, rfl, rfl, R2.pub _ _ h1, R2.pub _ _ h3, by rw [dpAll_len h2, dpAll_len h4]; exact p2.1, fun p hp => ?_⟩
    obtain ⟨R3, f1, f2, f3, f4⟩ := R2.fresh (o := .lst (us ++ ws)) hp
    exact q _ e2 _ _ _ p2.2 (s1.trans s2) R3 ⟨_, upd_same, f1, f2, f3, f4, dpAll_app h2 h4⟩
  · exact p2.elim
end
end DL
namespace L67
open PySem PySem.Spec PyProof.Rows L2 DL
/-! ### figures of a number -/
def figs (m : Nat) : List Nat := (Nat.toDigits 10 m).map Char.toNat
theorem figs_dig (m : Nat) : NumText.AllDigits (figs m) := fun c hc => by
  obtain ⟨ch, hch, e⟩ := List.mem_map.mp hc
  rw [← e]
  exact digit_range (Nat.isDigit_of_mem_toDigits (by decide) (by decide) hch)
theorem figs_ne (m : Nat) : figs m ≠ [] := fun e => by
  have h := tDigits_len_ge 10 m
  rw [List.map_eq_nil_iff.mp e] at h
  exact absurd h (by decide)
theorem figs_len {m : Nat} (h : m ≤ 10 ^ 39) : (figs m).length ≤ 40 := by
  unfold figs
  rw [List.length_map]
  exact digits10_le (k := 40) (by decide) (Nat.lt_of_le_of_lt h (by decide))
theorem figs_lead (m : Nat) (h : m ≠ 0) : ∃ c r, figs m = c :: r ∧ c ≠ 48 := by
  induction m using Nat.strongRecOn with
  | _ m ih =>
    by_cases hm : m < 10
    · have e : figs m = [(Nat.digitChar m).toNat] := by
        unfold figs
        rw [Nat.toDigits_of_lt_base hm]
        rfl
      refine ⟨_, _, e, ?_⟩
      have hb : ∀ d : Nat, d < 10 → d ≠ 0 → (Nat.digitChar d).toNat ≠ 48 := by decide
      exact hb m hm h
    · have h1 : m % 10 < 10 := Nat.mod_lt m (by decide)
      have t : Nat.toDigits 10 (m / 10) ++ Nat.toDigits 10 (m % 10) = Nat.toDigits 10 (10 * (m / 10) + m % 10) := Nat.toDigits_append_toDigits (by decide) (by omega) h1
      rw [Nat.div_add_mod] at t
      obtain ⟨c, r, e, hc⟩ := ih (m / 10) (by omega) (by omega)
      refine ⟨c, r ++ figs (m % 10), ?_, hc⟩
      have e2 : figs m = figs (m / 10) ++ figs (m % 10) := by
        unfold figs
        rw [← t, List.map_append]
      rw [e2, e]
      rfl
def numT (i : Int) : Str := Str.ofString (toString i)
theorem numT_pos {i : Int} (h : 0 ≤ i) : (numT i).cps.toList = figs i.natAbs := by
  obtain ⟨m, rfl⟩ := Int.eq_ofNat_of_zero_le h
  show (Str.ofString (toString (Int.ofNat m))).cps.toList = _
  rw [text_ofNat]
  rfl
theorem numT_neg {i : Int} (h : i < 0) : (numT i).cps.toList = 45 :: figs i.natAbs := by
  obtain ⟨m, rfl⟩ := Int.eq_negSucc_of_lt_zero h
  unfold numT
  rw [Str.ofString_eq_toList]
  show (("-" ++ Nat.repr (m + 1)).toList.map Char.toNat) = _
  rw [String.toList_append, List.map_append, Nat.toList_repr]
  rfl
theorem numT_len {i : Int} (h : i.natAbs ≤ 10 ^ 39) : (numT i).length ≤ 41 := by
  have e : (numT i).length = (numT i).cps.toList.length := by
    rw [Array.length_toList]
    rfl
  have l := figs_len h
  rw [e]
  by_cases hi : 0 ≤ i
  · rw [numT_pos hi]
    omega
  · rw [numT_neg (by omega)]
    simp only [List.length_cons]
    omega
theorem numT_reads {i : Int} (h : i.natAbs ≤ 10 ^ 39) : intText? (numT i) = some i := by
  have l := numT_len h
  by_cases hi : 0 ≤ i
  · have e := intText_digits (x := numT i) (by rw [numT_pos hi]; exact figs_dig _) (by rw [numT_pos hi]; exact figs_ne _) (by omega)
    rw [e, numT_pos hi]
    unfold figs
    rw [PySem.W.KIN.val_back]
    congr 1
    omega
  · have e := intText_neg (x := numT i) (numT_neg (by omega)) (figs_dig _) (figs_ne _) (by omega)
    rw [e]
    unfold figs
    rw [PySem.W.KIN.val_back]
    congr 1
    omega
/-! ### things and their words -/
def signOk (c : Nat) : Bool := decide (c ≠ 32) && (decide (c ≠ 10) && decide (c < 256))
mutual
def good : D → Bool
  | .none => true
  | .int i => decide (i.natAbs ≤ 10 ^ 39)
  | .str z => decide (0 < z.length) && (decide (z.length ≤ 6) && z.cps.toList.all signOk)
  | .tuple xs => goodA xs
  | .bool _ => false
  | .list _ => false
  | .dict _ => false
def goodA : List D → Bool
  | [] => true
  | x :: r => good x && goodA r
end
mutual
def wds : D → List Str
  | .none => ["none"]
  | .int i => [numT i]
  | .str z => ["'" ++ z]
  | .tuple xs => "(" :: (wdsA xs ++ [(")" : Str)])
  | .bool _ => []
  | .list _ => []
  | .dict _ => []
def wdsA : List D → List Str
  | [] => []
  | x :: r => wds x ++ wdsA r
end
theorem wds_ne : ∀ x : D, good x = true → wds x ≠ []
  | .none, _ => by simp [wds]
  | .int _, _ => by simp [wds]
  | .str _, _ => by simp [wds]
  | .tuple _, _ => by simp [wds]
  | .bool _, h => by simp [good] at h
  | .list _, h => by simp [good] at h
  | .dict _, h => by simp [good] at h
/-- no blank in a word, at most 42 signs -/
def wordOk (p : Str) : Prop := 32 ∉ p.cps.toList ∧ p.length ≤ 42
theorem word_num {i : Int} (h : i.natAbs ≤ 10 ^ 39) : wordOk (numT i) := by
  refine ⟨fun hc => ?_, Nat.le_trans (numT_len h) (by decide)⟩
  by_cases hi : 0 ≤ i
  · rw [numT_pos hi] at hc
    have := figs_dig _ 32 hc
    omega
  · rw [numT_neg (by omega)] at hc
    rcases List.mem_cons.mp hc with e | e
    · cases e
    · have := figs_dig _ 32 e
      omega
mutual
theorem wds_ok : ∀ x : D, good x = true → ∀ p ∈ wds x, wordOk p
  | .none, _, p, hp => by
    simp only [wds, List.mem_singleton] at hp
    subst hp
    exact ⟨by decide +kernel, by decide +kernel⟩
  | .int i, h, p, hp => by
    simp only [wds, List.mem_singleton] at hp
    subst hp
    exact word_num (by simpa [good] using h)
  | .str z, h, p, hp => by
    simp only [wds, List.mem_singleton] at hp
    subst hp
    simp only [good, Bool.and_eq_true, decide_eq_true_eq, List.all_eq_true] at h
    refine ⟨fun hc => ?_, ?_⟩
    · have e : ("'" ++ z : Str).cps.toList = 39 :: z.cps.toList := by
        rw [Str.cps_append, Array.toList_append]
        rfl
      rw [e] at hc
      rcases List.mem_cons.mp hc with e | e
      · cases e
      · have := h.2.2 32 e
        simp [signOk] at this
    · rw [PySem.strLen_append]
      show 1 + z.length ≤ 42
      omega
  | .tuple xs, h, p, hp => by
    simp only [wds, List.mem_cons, List.mem_append, List.mem_singleton, List.not_mem_nil, or_false] at hp
    rcases hp with rfl | hp | rfl
    · exact ⟨by decide +kernel, by decide +kernel⟩
    · exact wdsA_ok xs (by simpa [good] using h) p hp
    · exact ⟨by decide +kernel, by decide +kernel⟩
  | .bool _, h, _, _ => by simp [good] at h
  | .list _, h, _, _ => by simp [good] at h
  | .dict _, h, _, _ => by simp [good] at h
theorem wdsA_ok : ∀ xs : List D, goodA xs = true → ∀ p ∈ wdsA xs, wordOk p
  | [], _, _, hp => by simp [wdsA] at hp
  | x :: r, h, p, hp => by
    simp only [goodA, Bool.and_eq_true] at h
    simp only [wdsA, List.mem_append] at hp
    rcases hp with hp | hp
    · exact wds_ok x h.1 p hp
    · exact wdsA_ok r h.2 p hp
end
theorem split_wds {x : D} (h : good x = true) : Txt.split (Txt.join " " (wds x)) " " = wds x :=
  TL.split_join (s := 32) (S := []) rfl (by decide +kernel) (wds_ne x h) fun p hp => (wds_ok x h p hp).1
theorem sum_len {ps : List Str} (h : ∀ p ∈ ps, wordOk p) : (ps.map (·.length)).sum ≤ 42 * ps.length := by
  induction ps with
  | nil => simp
  | cons p r ih =>
    have h1 := (h p (List.mem_cons_self ..)).2
    have h2 := ih fun q hq => h q (List.mem_cons_of_mem _ hq)
    simp only [List.map_cons, List.sum_cons, List.length_cons]
    omega
theorem join_len {ps : List Str} (h : ∀ p ∈ ps, wordOk p) : (Txt.join " " ps).length ≤ 43 * ps.length := by
  have h1 := sum_len h
  have h2 : (Str.join " " ps).length ≤ (ps.map (·.length)).sum + ps.length * 1 := PySem.StrLaws.join_length_le " " ps
  rw [TL.join_eq]
  omega
/-! ### repr of a thing -/
mutual
theorem good_show : ∀ x : D, good x = true → x.showable = true ∧ noDict x = true ∧ x.leavesShort 50 = true ∧ x.weight + 1 ≤ 133 * (wds x).length
  | .none, _ => ⟨rfl, rfl, rfl, by simp [PyData.weight, wds]⟩
  | .int i, h => by
    have h : i.natAbs ≤ 10 ^ 39 := by simpa [good] using h
    have l : i.natAbs.log2 ≤ 130 := by
      by_cases z : i.natAbs = 0
      · rw [z]
        decide
      · have := (Nat.log2_lt z (k := 131)).mpr (Nat.lt_of_le_of_lt h (by decide))
        omega
    refine ⟨?_, rfl, ?_, ?_⟩
    · simp only [PyData.showable, decide_eq_true_eq]
      omega
    · simp only [PyData.leavesShort, decide_eq_true_eq, PyData.shown]
      exact decide_eq_true (Nat.le_trans (numT_len h) (show (41 : Nat) ≤ 50 by decide))
    · simp only [PyData.weight, wds, List.length_cons, List.length_nil]
      split <;> omega
  | .str z, h => by
    simp only [good, Bool.and_eq_true, decide_eq_true_eq, List.all_eq_true] at h
    refine ⟨rfl, rfl, ?_, ?_⟩
    · simp only [PyData.leavesShort, List.all_eq_true, decide_eq_true_eq]
      intro c hc
      have := h.2.2 c hc
      simp only [signOk, Bool.and_eq_true, decide_eq_true_eq] at this
      exact Nat.lt_trans this.2.2 (by decide)
    · have e : z.cps.size = z.length := rfl
      simp only [PyData.weight, wds, List.length_cons, List.length_nil]
      omega
  | .tuple xs, h => by
    obtain ⟨h1, h2, h3, h4⟩ := good_showA xs (by simpa [good] using h)
    refine ⟨by simpa [PyData.showable] using h1, by simpa [noDict] using h2, by simpa [PyData.leavesShort] using h3, ?_⟩
    simp only [PyData.weight, wds, List.length_cons, List.length_append, List.length_nil]
    omega
  | .bool _, h => by simp [good] at h
  | .list _, h => by simp [good] at h
  | .dict _, h => by simp [good] at h
theorem good_showA : ∀ xs : List D, goodA xs = true → PyData.showableAll xs = true ∧ noDicts xs = true ∧ PyData.leavesShortAll 50 xs = true ∧ PyData.weightAll xs ≤ 133 * (wdsA xs).length
  | [], _ => ⟨rfl, rfl, rfl, by simp [PyData.weightAll]⟩
  | x :: r, h => by
    simp only [goodA, Bool.and_eq_true] at h
    obtain ⟨a1, a2, a3, a4⟩ := good_show x h.1
    obtain ⟨b1, b2, b3, b4⟩ := good_showA r h.2
    refine ⟨by simp [PyData.showableAll, a1, b1], by simp [noDicts, a2, b2], by simp [PyData.leavesShortAll, a3, b3], ?_⟩
    simp only [PyData.weightAll, wdsA, List.length_append, List.length_cons]
    omega
end
end L67
namespace L67
open PySem PySem.Spec PyProof.Rows L2 DL
/-! ### the machine that reads words -/
/-- a word that stands for one thing -/
def Atom (w : Str) (y : D) : Prop := good y = true ∧ wds y = [w] ∧ ∀ xs, y ≠ .tuple xs
theorem atom_cases {w : Str} {y : D} (h : Atom w y) : (w = "none" ∧ y = .none) ∨ (∃ z : Str, w = "'" ++ z ∧ y = .str z ∧ 0 < z.length ∧ z.length ≤ 6 ∧ z.cps.toList.all signOk = true) ∨ ∃ i : Int, w = numT i ∧ y = .int i ∧ i.natAbs ≤ 10 ^ 39 := by
  obtain ⟨h1, h2, h3⟩ := h
  cases y with
  | none =>
    simp only [wds, List.cons.injEq, and_true] at h2
    exact .inl ⟨h2.symm, rfl⟩
  | str z =>
    simp only [wds, List.cons.injEq, and_true] at h2
    simp only [good, Bool.and_eq_true, decide_eq_true_eq] at h1
    exact .inr (.inl ⟨z, h2.symm, rfl, h1.1, h1.2.1, h1.2.2⟩)
  | int i =>
    simp only [wds, List.cons.injEq, and_true] at h2
    simp only [good, decide_eq_true_eq] at h1
    exact .inr (.inr ⟨i, h2.symm, rfl, h1⟩)
  | tuple xs => exact absurd rfl (h3 xs)
  | _ => simp [good] at h1
theorem quote_cps (z : Str) : ("'" ++ z : Str).cps.toList = 39 :: z.cps.toList := by
  rw [Str.cps_append, Array.toList_append]
  rfl
/-- the first sign of a number's text -/
theorem num_first (i : Int) : ∃ c r, (numT i).cps.toList = c :: r ∧ (c = 45 ∨ (48 ≤ c ∧ c ≤ 57)) := by
  by_cases hi : 0 ≤ i
  · rw [numT_pos hi]
    cases e : figs i.natAbs with
    | nil => exact absurd e (figs_ne _)
    | cons c r => exact ⟨c, r, rfl, .inr (figs_dig i.natAbs c (by rw [e]; exact List.mem_cons_self ..))⟩
  · exact ⟨45, _, numT_neg (by omega), .inl rfl⟩
theorem first_ne {w u : Str} {c d : Nat} {r s : List Nat} (h : w.cps.toList = c :: r) (k : u.cps.toList = d :: s) (n : c ≠ d) : w ≠ u := fun e => by
  subst e
  rw [h] at k
  cases k
  exact n rfl
theorem atom_ne {w : Str} {y : D} (h : Atom w y) : w ≠ "(" ∧ w ≠ ")" := by
  rcases atom_cases h with ⟨rfl, _⟩ | ⟨z, rfl, _⟩ | ⟨i, rfl, _⟩
  · exact ⟨by decide +kernel, by decide +kernel⟩
  · exact ⟨first_ne (quote_cps z) (show ("(" : Str).cps.toList = 40 :: [] by decide +kernel) (by decide), first_ne (quote_cps z) (show (")" : Str).cps.toList = 41 :: [] by decide +kernel) (by decide)⟩
  · obtain ⟨c, r, e, hc⟩ := num_first i
    exact ⟨first_ne e (show ("(" : Str).cps.toList = 40 :: [] by decide +kernel) (by omega), first_ne e (show (")" : Str).cps.toList = 41 :: [] by decide +kernel) (by omega)⟩
/-- from the words to the thing: what is open beneath, the top one -/
inductive Runs (x : D) : List Str → List (List D) → List D → Prop
  | done : Runs x [] [] [x]
  | opn {ws : List Str} {rest : List (List D)} {top : List D} : (rest ≠ [] ∨ top = []) → Runs x ws (rest ++ [top]) [] → Runs x ("(" :: ws) rest top
  | shut {ws : List Str} {rest : List (List D)} {top ys : List D} : Runs x ws rest (top ++ [.tuple ys]) → Runs x (")" :: ws) (rest ++ [top]) ys
  | part {w : Str} {y : D} {ws : List Str} {rest : List (List D)} {top : List D} : (rest ≠ [] ∨ top = []) → Atom w y → Runs x ws rest (top ++ [y]) → Runs x (w :: ws) rest top
mutual
theorem runs_of {x : D} : ∀ (y : D), good y = true → ∀ {ws : List Str} {rest : List (List D)} {top : List D}, (rest ≠ [] ∨ top = []) → Runs x ws rest (top ++ [y]) → Runs x (wds y ++ ws) rest top
  | .none, h, _, _, _, o, r => .part o ⟨h, by rw [wds], fun xs z => by cases z⟩ r
  | .int i, h, _, _, _, o, r => by
    rw [wds]
    exact .part o ⟨h, by rw [wds], fun xs z => by cases z⟩ r
  | .str z, h, _, _, _, o, r => by
    rw [wds]
    exact .part o ⟨h, by rw [wds], fun xs z => by cases z⟩ r
  | .tuple ys, h, ws, rest, top, o, r => by
    rw [wds]
    show Runs x ("(" :: ((wdsA ys ++ [(")" : Str)]) ++ ws)) rest top
    refine .opn o ?_
    rw [List.append_assoc]
    refine runs_all ys (by simpa [good] using h) (by simp) ?_
    rw [List.nil_append]
    exact .shut r
  | .bool _, h, _, _, _, _, _ => by simp [good] at h
  | .list _, h, _, _, _, _, _ => by simp [good] at h
  | .dict _, h, _, _, _, _, _ => by simp [good] at h
theorem runs_all {x : D} : ∀ (ys : List D), goodA ys = true → ∀ {ws : List Str} {rest : List (List D)} {top : List D}, rest ≠ [] → Runs x ws rest (top ++ ys) → Runs x (wdsA ys ++ ws) rest top
  | [], _, _, _, _, _, r => by
    rw [wdsA]
    simpa using r
  | y :: ys, h, ws, rest, top, o, r => by
    simp only [goodA, Bool.and_eq_true] at h
    rw [wdsA, List.append_assoc]
    refine runs_of y h.1 (.inl o) (runs_all ys h.2 o ?_)
    rw [List.append_assoc]
    exact r
end
theorem runs_whole {x : D} (h : good x = true) : Runs x (wds x) [] [] := by
  have := runs_of x h (ws := []) (rest := []) (top := []) (.inr rfl) .done
  simpa using this
end L67
namespace L67
open PySem PySem.Spec PyProof.Rows L2 DL
def topS (i : Nat) : Stmt := PySem.Challenge.pw_wiretongue_k67_things_there_and_back.main.body.getD i (.Pass ⟨0, 0, 0, 0⟩)
abbrev s_law_draw : Stmt := topS 16
abbrev N_law_draw : List Str := ["_law_deck_here", "_law_sides", "_law_at", "_law_number", "_law_cell"]
theorem sc_law_draw : FnScope N_law_draw ["_law_deck_here", "_law_sides"] (defScope s_law_draw) := ⟨rfl, rfl, rfl, by decide +kernel, rfl, by decide +kernel, by decide +kernel⟩
abbrev s_law_deck : Stmt := topS 15
abbrev N_law_deck : List Str := ["_law_script", "_law_cells", "_law_seed", "_law_cell"]
theorem sc_law_deck : FnScope N_law_deck ["_law_script"] (defScope s_law_deck) := ⟨rfl, rfl, rfl, by decide +kernel, rfl, by decide +kernel, by decide +kernel⟩
abbrev s_words_of : Stmt := topS 9
abbrev N_words_of : List Str := ["thing", "found", "part"]
theorem sc_words_of : FnScope N_words_of ["thing"] (defScope s_words_of) := ⟨rfl, rfl, rfl, by decide +kernel, rfl, by decide +kernel, by decide +kernel⟩
abbrev s_show_thing : Stmt := topS 10
abbrev N_show_thing : List Str := ["thing"]
theorem sc_show_thing : FnScope N_show_thing ["thing"] (defScope s_show_thing) := ⟨rfl, rfl, rfl, by decide +kernel, rfl, by decide +kernel, by decide +kernel⟩
abbrev s_is_number : Stmt := topS 11
abbrev N_is_number : List Str := ["word", "figures", "sign"]
theorem sc_is_number : FnScope N_is_number ["word"] (defScope s_is_number) := ⟨rfl, rfl, rfl, by decide +kernel, rfl, by decide +kernel, by decide +kernel⟩
abbrev s_part_in : Stmt := topS 12
abbrev N_part_in : List Str := ["word", "at"]
theorem sc_part_in : FnScope N_part_in ["word", "at"] (defScope s_part_in) := ⟨rfl, rfl, rfl, by decide +kernel, rfl, by decide +kernel, by decide +kernel⟩
abbrev s_read_thing : Stmt := topS 13
abbrev N_read_thing : List Str := ["text", "words", "open_ones", "at", "word", "shut", "first", "others"]
theorem sc_read_thing : FnScope N_read_thing ["text"] (defScope s_read_thing) := ⟨rfl, rfl, rfl, by decide +kernel, rfl, by decide +kernel, by decide +kernel⟩
abbrev s_law_thing : Stmt := topS 17
abbrev N_law_thing : List Str := ["_law_deck_here", "_law_deep", "_law_way", "_law_signs", "_law_some", "_law_k"]
theorem sc_law_thing : FnScope N_law_thing ["_law_deck_here", "_law_deep"] (defScope s_law_thing) := ⟨rfl, rfl, rfl, by decide +kernel, rfl, by decide +kernel, by decide +kernel⟩
abbrev s_law_words_of : Stmt := topS 18
abbrev N_law_words_of : List Str := ["_law_one", "_law_found", "_law_part"]
theorem sc_law_words_of : FnScope N_law_words_of ["_law_one"] (defScope s_law_words_of) := ⟨rfl, rfl, rfl, by decide +kernel, rfl, by decide +kernel, by decide +kernel⟩
abbrev s_law : Stmt := topS 19
abbrev N_law : List Str := ["_law_script", "_law_deck_here", "_law_deep", "_law_some", "_law_nested", "_law_k", "_law_one", "_law_kept", "_law_line", "_law_found"]
theorem sc_law : FnScope N_law ["_law_script"] (defScope s_law) := ⟨rfl, rfl, rfl, by decide +kernel, rfl, by decide +kernel, by decide +kernel⟩
def figText : Str := "0123456789"
structure Tb (K : PySem.W.Frag) (mg : Str → Option Value) : Prop where
  n_len : mg "len" = none
  n_all : mg "all" = none
  n_isinstance : mg "isinstance" = none
  n_str : mg "str" = none
  n_int : mg "int" = none
  n_range : mg "range" = none
  n_list : mg "list" = none
  n_repr : mg "repr" = none
  n_tuple : mg "tuple" = none
  n_enumerate : mg "enumerate" = none
  g_OPEN : GlobD K mg "OPEN" (.str "(")
  g_SHUT : GlobD K mg "SHUT" (.str ")")
  g_NONE : GlobD K mg "NONE" (.str "none")
  g_QUOTE : GlobD K mg "QUOTE" (.str "'")
  g_FIGURES : GlobD K mg "FIGURES" (.str figText)
  g_MOST_FIGURES : GlobD K mg "MOST_FIGURES" (.int 4000)
section
variable {P : Program} {w : World} {K : PySem.W.Frag} {mg : Str → Option Value} {base : Heap}
theorem ok_draw {f : Addr} {fd : FuncData} {k : Nat} (F : Fun K "_law_draw" "_law_draw" s_law_draw f fd) : FnG P w K mg base CX0 (k + 1) f fd ["_law_deck_here", "_law_sides"] (spD K 1 spDraw) := by
  refine Fun.okG F sc_law_draw (fun vs H Q E h => ?_) (fun cdv A fs s H vs Q E hr h => ?_)
  · obtain ⟨W, B, G, as, Pd, r, a, ⟨n, rfl, _⟩, _⟩ := h
    exact args_len a
  · obtain ⟨W, B, G, as, Pd, r, a, ⟨n, rfl, n0, n1, hP⟩, q⟩ := h
    have nd := sc_law_draw.nd
    have hu := hu_of hr.rm
    refine ⟨_, PSs.nox (pss_cons (ps_dput hu (pv 0) pe_str (pe_op op_add (pe_dget hu (pv 0) pe_str (fun _ _ => rfl)) pe_int) rfl)
      (pss_cons (ps_set (i := 2) nd rfl (.inl rfl) (pe_dget hu (pv 0) pe_str (fun _ _ => rfl)))
      (pss_cons (ps_set (i := 3) nd rfl (.inl rfl) (pe_op op_add (pe_dget hu (pv 0) pe_str (fun _ _ => rfl)) (pe_op op_mulX (pe_op op_mulX pe_int (pv 2)) (pv 2))))
      (pss_cons (ps_if (pt_cmpR (op_neD hr.rm.units) (pe_dget hu (pv 0) pe_str (fun _ _ => rfl)) (pe_lst pa_nil) (nomark _))
        (pss_cons (ps_set (i := 4) nd rfl (.inl rfl) (pe_bm0 PySem.F.plainAttrs_list PySem.F.slot_list_pop PySem.F.type_list_pop mt_pop (pe_dget hu (pv 0) pe_str (fun _ _ => rfl))))
        (pss_cons (ps_if (pt_cmpR op_ge (pv 4) (pe_op op_pow pe_int pe_int) (nomark _))
          (pss_cons (ps_expr (pe_bm PySem.F.plainAttrs_list PySem.F.slot_list_append PySem.F.type_list_append mt_append (pe_dget hu (pv 0) pe_str (fun _ _ => rfl)) (pa_cons (pe_op op_fdivW (pv 4) (pv 1)) pa_nil)))
          (pss_one (ps_ret (pe_op op_mod (pv 4) (pv 1))))) pss_nil)
        (pss_one (ps_set (i := 3) nd rfl (.inl rfl) (pe_op op_add (pv 3) (pe_op op_mulX pe_int (pv 4))))))) pss_nil)
      (pss_cons (ps_set (i := 3) nd rfl (.inl rfl) (pe_op op_mod (pe_op op_mulX (pv 3) (pe_op op_add (pv 3) (pe_op op_mulX pe_int (pv 2)))) pe_int))
      (pss_cons (ps_set (i := 3) nd rfl (.inl rfl) (pe_op op_mod (pe_op op_add (pe_op op_mulX (pv 3) (pv 3)) (pe_op op_mulX pe_int (pv 2))) pe_int))
      (pss_one (ps_ret (pe_op op_mod (pe_op op_fdiv (pv 3) pe_int) (pv 1)))))))))), ?_⟩
    have e : L2.start N_law_draw vs = vs.map some ++ [none, none, none] := by
      unfold L2.start
      rw [args_len a]
      rfl
    rw [e]
    exact draw_reads r a n0 n1 hP q
theorem ok_deck {f : Addr} {fd : FuncData} {k : Nat} (ml : mg "len" = none) (mL : mg "list" = none) (F : Fun K "_law_deck" "_law_deck" s_law_deck f fd) : FnG P w K mg base CX0 (k + 1) f fd ["_law_script"] (spDeck K) := by
  refine Fun.okG F sc_law_deck (fun vs H Q E h => ?_) (fun cdv A fs s H vs Q E hr h => ?_)
  · obtain ⟨a, ns, rfl, _⟩ := h
    rfl
  · have nd := sc_law_deck.nd
    have hu := hu_of hr.rm
    refine ⟨_, PSs.nox (pss_cons (ps_set (i := 1) nd rfl (.inl rfl) (pe_callTy call_list_of (by rfl) mL (by decide +kernel) (pa_cons (pe_slice sl_list (pv 0) po_none (po_some pe_int)) pa_nil)))
      (pss_cons (ps_set (i := 2) nd rfl (.inl rfl) (pe_op op_add pe_int (pe_callB call_len_seq (by rfl) ml PySem.boot_len (pa_cons (pv 1) pa_nil))))
      (pss_cons (ps_for PassesOwn.never rfl (pi_list (pv 1)) (pg_name (i := 3) nd rfl (.inl rfl)) (pss_one (ps_set (i := 2) nd rfl (.inl rfl) (pe_op op_mod (pe_op op_add (pe_op op_mulX (pv 2) pe_int) (pv 3)) pe_int))))
      (pss_one (ps_ret (pe_disp (pps_cons pe_str (pe_revL (pv 1)) (pps_cons pe_str (pv 2) (pps_cons pe_str pe_int pps_nil))) (by rfl) (by rfl) (fun z => by cases z) (by decide))))))), ?_⟩
    have e : L2.start N_law_deck vs = vs.map some ++ [none, none, none] := by
      obtain ⟨a, ns, rfl, _⟩ := h
      rfl
    rw [e]
    exact deck_reads h
end
end L67
namespace L67
open PySem PySem.Spec PyProof.Rows L2 DL
theorem big_size : (1000000 : Nat) ≤ sizeLine := by decide
theorem at0 {α : Type} (c : α) (r : List α) : atI (c :: r) 0 = some c := by
  obtain ⟨x, e, _, e'⟩ := atI_lt (xs := c :: r) (i := 0) (by omega) (by rw [List.length_cons]; omega)
  have : some c = some x := e'
  rw [e, this]
theorem start1 {z : Str} {c d : Nat} {r : List Nat} (h : z.cps.toList = d :: r) : Txt.startswith z ⟨#[c]⟩ = decide (d = c) := by
  obtain ⟨⟨l⟩⟩ := z
  have h : l = d :: r := h
  subst h
  unfold Txt.startswith Builtin.Str.subAt
  show (decide (0 + 1 ≤ (d :: r).length) && ((d :: r).toArray.extract 0 (0 + 1) == #[c])) = _
  rw [decide_eq_true (by simp), Bool.true_and]
  have e : (d :: r).toArray.extract 0 (0 + 1) = #[d] := by simp
  rw [e]
  by_cases hd : d = c
  · subst hd
    simp
  · simp [hd]
theorem cut1 {z : Str} {c : Nat} {r : List Nat} (h : z.cps.toList = c :: r) : cutS z (some 1) none = ⟨r.toArray⟩ := by
  obtain ⟨⟨l⟩⟩ := z
  have h : l = c :: r := h
  subst h
  unfold cutS
  show (⟨(((c :: r).drop (HT.sIx (c :: r).length 0 (some ((1 : Nat) : Int)))).take (HT.sIx (c :: r).length (c :: r).length none - HT.sIx (c :: r).length 0 (some ((1 : Nat) : Int)))).toArray⟩ : Str) = _
  rw [HT.sIx_nat, HT.sIx_none]
  have e : min 1 (c :: r).length = 1 := by simp
  rw [e]
  simp
/-- a sign is a figure -/
def figIn : D → Bool
  | .str ⟨a⟩ => match a.toList with
    | [c] => decide (c ∈ figText.cps.toList)
    | _ => false
  | _ => false
theorem figs_all : ∀ (l : List Nat), NumText.AllDigits l → ((l.map fun c => PyData.str ⟨#[c]⟩).filterMap fun x => some (PyData.bool (figIn x))) = l.map fun _ => PyData.bool true
  | [], _ => rfl
  | c :: r, h => by
    have hc := h c (List.mem_cons_self ..)
    have e : figIn (.str ⟨#[c]⟩) = true := by
      show decide (c ∈ figText.cps.toList) = true
      have hb : ∀ d : Nat, d < 58 → 48 ≤ d → d ∈ figText.cps.toList := by decide +kernel
      exact decide_eq_true (hb c (by omega) hc.1)
    rw [List.map_cons, List.filterMap_cons, e, figs_all r fun d hd => h d (List.mem_cons_of_mem _ hd)]
    rfl
theorem bls_true : ∀ l : List Nat, blsD (l.map fun _ => PyData.bool true) = some (l.map fun _ => true)
  | [] => rfl
  | c :: r => by rw [List.map_cons, blsD, bls_true r]; rfl
theorem all_true : ∀ l : List Nat, (l.map fun _ => true).all id = true
  | [] => rfl
  | c :: r => by rw [List.map_cons, List.all_cons, all_true r]; rfl
def spNum : List EV → (D → Prop) → Prop := fun as P => ∃ i : Int, as = [.d (.str (numT i))] ∧ i.natAbs ≤ 10 ^ 39 ∧ P (.bool true)
def spPart : List EV → (D → Prop) → Prop := fun as P => ∃ (wd : Str) (y : D) (n : Int), as = [.d (.str wd), .d (.int n)] ∧ Atom wd y ∧ P y
def numRest : MS := sSeq (sIf (mOrT (mNotT (mChainT cLe cLe (mC (.int 1)) (mCB dLen (mCons (mVar 1) mNil)) (mC (.int 4000)))) (mNotT (mTest (mCB dAll (mCons (mPubF (mLcC (0 + (0 + 0)) 0 (miStr (mVar 1)) (gNm 2) mYes (mCmp cIn (mVar 2) (mC (.str figText))) [2])) mNil))))) (sRet (mC (.bool false))) sNext)
  (sRet (mOrV (mCmp cEq (mVar 0) (mC (.str "0"))) (mCmp cNe (mOp dIx (mVar 1) (mC (.int 0))) (mC (.str "0")))))
theorem num_rest {i : Int} {F : Str} {N : DEnv → Prop} {Q : D → Prop} (hi : i.natAbs ≤ 10 ^ 39) (hF : F.cps.toList = figs i.natAbs) (hQ : Q (.bool true)) : numRest { nx := N, rt := Q } [.d (.str (numT i)), .d (.str F), .un] := by
  have big := big_size
  have fl := figs_len hi
  have e1 : F.length = (figs i.natAbs).length := by
    rw [← hF, Array.length_toList]
    rfl
  have e2 : 0 < (figs i.natAbs).length := List.length_pos_iff.mpr (figs_ne _)
  have hl : F.length ≤ sizeLine := by omega
  refine ⟨hl, ?_⟩
  dsimp only [cLe, cI, mC]
  cases h1 : decide ((1 : Int) ≤ (F.length : Int)) with
  | false => exact absurd (show (1 : Int) ≤ (F.length : Int) by omega) (of_decide_eq_false h1)
  | true =>
    dsimp only
    cases h2 : decide ((F.length : Int) ≤ 4000) with
    | false => exact absurd (show (F.length : Int) ≤ 4000 by omega) (of_decide_eq_false h2)
    | true =>
      refine ⟨Nat.le_of_eq (Nat.mul_zero _), fun j hj xs => ?_, ?_⟩
      · have : j = 2 := by simpa using hj
        subst this
        simp
      · refine lcl_fun (fun x => some (.bool (figIn x))) _ _ (fun x hx k hk => ?_) ?_ ?_
        · obtain ⟨c, hc, rfl⟩ := List.mem_map.mp hx
          exact ⟨rfl, rfl, hk⟩
        · rw [strD_len, List.length_nil, Nat.zero_add]
          exact hl
        · rw [List.nil_append]
          have e3 : (strD F).filterMap (fun x => some (PyData.bool (figIn x))) = (figs i.natAbs).map fun _ => PyData.bool true := by
            unfold strD
            rw [hF]
            exact figs_all _ (figs_dig _)
          rw [e3]
          dsimp only [mNil, mDats, dats, Option.map, dAll]
          rw [bls_true]
          dsimp only
          rw [all_true]
          show mOrV (fun env k => k (.bool (decide (numT i = "0"))) env) (mCmp cNe (mOp dIx (mVar 1) (mC (.int 0))) (mC (.str "0"))) [.d (.str (numT i)), .d (.str F), .un] (fun x _ => Q x)
          cases h3 : decide (numT i = "0") with
          | true => exact hQ
          | false =>
            have nz : i.natAbs ≠ 0 := fun z => by
              have z0 : i = 0 := by omega
              subst z0
              exact absurd (show numT 0 = "0" by decide +kernel) (of_decide_eq_false h3)
            obtain ⟨c, r, ec, hc⟩ := figs_lead _ nz
            refine ⟨hl, c, ?_, ?_⟩
            · rw [hF, ec]
              exact at0 c r
            · show Q (.bool (!decide ((⟨#[c]⟩ : Str) = "0")))
              have e : decide ((⟨#[c]⟩ : Str) = "0") = false := decide_eq_false fun z => hc (by
                have := congrArg (fun q : Str => q.cps.toList) z
                have e0 : (("0" : Str)).cps.toList = [48] := by decide +kernel
                simp only [e0] at this
                simpa using this)
              rw [e]
              exact hQ
section
variable {P : Program} {w : World} {K : PySem.W.Frag} {mg : Str → Option Value} {base : Heap} {f : Addr} {fd : FuncData}
theorem ok_is_number (T : Tb K mg) (F : Fun K "is_number" "is_number" s_is_number f fd) : FnG P w K mg base CX0 1 f fd ["word"] (spD K 0 spNum) := by
  have nd := sc_is_number.nd
  refine okDG (k := 0) F sc_is_number (fun as Q h => by obtain ⟨x, rfl, _⟩ := h; rfl) (fun cdv A fs s H E hr => have hu := hr.rm.units; have hgd := hr.gd; (gss_cons (gs_set (i := 1) nd rfl (.inl rfl) (ge_if (gt_val (ge_bm PySem.F.plainAttrs_str PySem.F.slot_str_startswith PySem.F.type_str_startswith md_starts (ge_var 0) (ga_cons ge_str ga_nil))) (ge_slice sd_sl (ge_var 0) (go_some ge_int) go_none) (ge_var 0)))
      (gss_cons (gs_if (PW.pt (gt_or (gt_not (gt_chain od_le od_le ge_int (ge_callB cd_len (by rfl) T.n_len PySem.boot_len (ga_cons (ge_var 1) ga_nil)) (ge_gl T.g_MOST_FIGURES (by rfl)))) (pw_or1 (gt_not (gt_val (ge_callB (cd_all rfl) (by rfl) T.n_all boot_all (ga_cons (ge_pub (gf_lc 0 rfl nd (gi_str (ge_var 1)) (blkOk_by (own := [("sign", 2)]) (N := N_is_number) (sc := defScope s_is_number) (by decide +kernel)) (fun _ _ _ _ _ => (gg_name (i := 2) (vs := (List.map (·.2) ([("sign", 2)] : List (Str × Nat)))) nd rfl (.inl rfl) (by decide))) (fun _ _ _ _ _ => gts_nil) (fun _ _ _ _ _ => (ge_cmp od_in (ge_var 2) (ge_gl T.g_FIGURES (by rfl)) (by rfl))))) ga_nil))))))) (gss_one (gs_ret ge_bl)) gss_nil)
      (gss_one (gs_ret (ge_orV (ge_cmp (od_eq hu) (ge_var 0) ge_str (nomark _)) (pe_one (ge_cmp (od_ne hu) (ge_ix od_ix (ge_var 1) ge_int (fun _ _ => rfl)) ge_str (nomark _))))))))) (by decide) (fun as Q h => ?_)
  obtain ⟨i, rfl, hi, hQ⟩ := h
  have big := big_size
  have hl := numT_len hi
  obtain ⟨c, r, ec, hc⟩ := num_first i
  refine ⟨rfl, ?_⟩
  show match Txt.startswith (numT i) ⟨#[45]⟩ with | true => _ | false => _
  rw [start1 ec]
  by_cases hi0 : 0 ≤ i
  · rw [numT_pos hi0] at ec
    have h5 : c ≠ 45 := fun z => by
      have := figs_dig i.natAbs c (by rw [ec]; exact List.mem_cons_self ..)
      omega
    rw [decide_eq_false h5]
    exact num_rest hi (numT_pos hi0) hQ
  · have en := numT_neg (show i < 0 by omega)
    rw [en] at ec
    cases ec
    rw [decide_eq_true rfl]
    refine ⟨by omega, ?_⟩
    show numRest _ [_, .d (.str (cutS (numT i) (some 1) none)), _]
    rw [cut1 en]
    exact num_rest hi rfl hQ
theorem ok_part_in (T : Tb K mg) (c_is_number : Cal P w K mg base "is_number" 1 ["word"] 0 spNum) (F : Fun K "part_in" "part_in" s_part_in f fd) : FnG P w K mg base CX0 2 f fd ["word", "at"] (spD K 0 spPart) := by
  have nd := sc_part_in.nd
  refine okDG (k := 1) F sc_part_in (fun as Q h => by obtain ⟨x, y, n, rfl, _⟩ := h; rfl) (fun cdv A fs s H E hr => have hu := hr.rm.units; have hgd := hr.gd; (gss_cons (gs_if (gt_cmp (od_eq hu) (ge_var 0) (ge_gl T.g_NONE (by rfl)) (nomark _)) (gss_one (gs_ret ge_non)) gss_nil)
      (gss_cons (gs_if (PW.pt (gt_and (gt_val (ge_bm PySem.F.plainAttrs_str PySem.F.slot_str_startswith PySem.F.type_str_startswith md_starts (ge_var 0) (ga_cons (ge_gl T.g_QUOTE (by rfl)) ga_nil))) (gt_and (gt_cmp od_gt (ge_callB cd_len (by rfl) T.n_len PySem.boot_len (ga_cons (ge_var 0) ga_nil)) ge_int (nomark _)) (pw_and1 (gt_cmp od_notIn ge_str (ge_var 0) (by rfl)))))) (gss_one (gs_ret (ge_slice sd_sl (ge_var 0) (go_some ge_int) go_none))) gss_nil)
      (gss_cons (gs_if (gt_not (gt_val (ge_cal c_is_number (hr.mono (by first | decide | omega)) (by rfl) (ga_cons (ge_var 0) ga_nil)))) (gss_one gs_never) gss_nil)
      (gss_one (gs_ret (ge_callTy cd_int (by rfl) T.n_int (by decide +kernel) (ga_cons (ge_var 0) ga_nil)))))))) (by decide) (fun as Q h => ?_)
  obtain ⟨wd, y, n, rfl, hA, hQ⟩ := h
  have big := big_size
  rcases atom_cases hA with ⟨rfl, rfl⟩ | ⟨z, rfl, rfl, z0, z1, zs⟩ | ⟨i, rfl, rfl, hi⟩
  · exact hQ
  · show match decide (("'" ++ z : Str) = "none") with | true => _ | false => _
    rw [decide_eq_false (first_ne (quote_cps z) (show ("none" : Str).cps.toList = 110 :: [111, 110, 101] by decide +kernel) (by decide))]
    refine ⟨rfl, ?_⟩
    show match Txt.startswith ("'" ++ z) ⟨#[39]⟩ with | true => _ | false => _
    rw [start1 (quote_cps z), decide_eq_true rfl]
    have lq : ("'" ++ z : Str).length = 1 + z.length := PySem.strLen_append ..
    refine ⟨by omega, ?_⟩
    show match decide ((1 : Int) < (("'" ++ z : Str).length : Int)) with | true => _ | false => _
    rw [decide_eq_true (by omega)]
    show match !decide ((10 : Nat) ∈ ("'" ++ z : Str).cps.toList) with | true => _ | false => _
    have n10 : (10 : Nat) ∉ ("'" ++ z : Str).cps.toList := fun hm => by
      rw [quote_cps] at hm
      rcases List.mem_cons.mp hm with e | e
      · cases e
      · have := List.all_eq_true.mp zs 10 e
        simp [signOk] at this
    rw [decide_eq_false n10]
    refine ⟨by omega, ?_⟩
    show Q (.str (cutS ("'" ++ z) (some 1) none))
    rw [cut1 (quote_cps z)]
    exact hQ
  · obtain ⟨c, r, ec, hc⟩ := num_first i
    have hl := numT_len hi
    show match decide (numT i = "none") with | true => _ | false => _
    rw [decide_eq_false (first_ne ec (show ("none" : Str).cps.toList = 110 :: [111, 110, 101] by decide +kernel) (by omega))]
    refine ⟨rfl, ?_⟩
    show match Txt.startswith (numT i) ⟨#[39]⟩ with | true => _ | false => _
    rw [start1 ec, decide_eq_false (by omega)]
    exact ⟨i, rfl, hi, i, numT_reads hi, by omega, hQ⟩
end
end L67
namespace L67
open PySem PySem.Spec PyProof.Rows L2 DL
theorem goodA_mem : ∀ {xs : List D} {x : D}, goodA xs = true → x ∈ xs → good x = true
  | [], _, _, hm => by cases hm
  | y :: r, x, h, hm => by
    simp only [goodA, Bool.and_eq_true] at h
    rcases List.mem_cons.mp hm with rfl | hm
    · exact h.1
    · exact goodA_mem h.2 hm
theorem goodA_of : ∀ {xs : List D}, (∀ x ∈ xs, good x = true) → goodA xs = true
  | [], _ => rfl
  | y :: r, h => by
    simp only [goodA, Bool.and_eq_true]
    exact ⟨h y (List.mem_cons_self ..), goodA_of fun x hx => h x (List.mem_cons_of_mem _ hx)⟩
theorem depthA_mem : ∀ {xs : List D} {x : D}, x ∈ xs → x.depth ≤ PyData.depthAll xs
  | [], _, hm => by cases hm
  | y :: r, x, hm => by
    rw [PyData.depthAll]
    rcases List.mem_cons.mp hm with rfl | hm
    · exact Nat.le_max_left ..
    · exact Nat.le_trans (depthA_mem hm) (Nat.le_max_right ..)
theorem depthA_of {n : Nat} : ∀ {xs : List D}, (∀ x ∈ xs, x.depth ≤ n) → PyData.depthAll xs ≤ n
  | [], _ => Nat.zero_le _
  | y :: r, h => by
    rw [PyData.depthAll]
    exact Nat.max_le.mpr ⟨h y (List.mem_cons_self ..), depthA_of fun x hx => h x (List.mem_cons_of_mem _ hx)⟩
theorem wdsA_app : ∀ (xs ys : List D), wdsA (xs ++ ys) = wdsA xs ++ wdsA ys
  | [], ys => by rw [wdsA, List.nil_append, List.nil_append]
  | x :: r, ys => by rw [List.cons_append, wdsA, wdsA, wdsA_app r ys, List.append_assoc]
theorem wdsA_take {xs : List D} {i : Nat} {x : D} (h : xs[i]? = some x) : wdsA (xs.take (i + 1)) = wdsA (xs.take i) ++ wds x := by
  rw [List.take_add_one, h, wdsA_app]
  show _ ++ wdsA [x] = _
  rw [wdsA, wdsA, List.append_nil]
theorem wdsA_le (xs : List D) (i : Nat) : (wdsA (xs.take i)).length ≤ (wdsA xs).length := by
  have e := wdsA_app (xs.take i) (xs.drop i)
  rw [List.take_append_drop] at e
  rw [e, List.length_append]
  omega
theorem wdsA_len_of {n : Nat} : ∀ {xs : List D}, (∀ x ∈ xs, (wds x).length ≤ n) → (wdsA xs).length ≤ xs.length * n
  | [], _ => by simp [wdsA]
  | y :: r, h => by
    rw [wdsA, List.length_append, List.length_cons, Nat.add_mul, Nat.one_mul]
    have h1 := h y (List.mem_cons_self ..)
    have h2 := wdsA_len_of fun x hx => h x (List.mem_cons_of_mem _ hx)
    omega
def spW (d : Nat) : List EV → (D → Prop) → Prop := fun as P => ∃ x, as = [.d x] ∧ good x = true ∧ x.depth < d ∧ (wds x).length ≤ 100000 ∧ P (.list ((wds x).map .str))
def spShow (d : Nat) : List EV → (D → Prop) → Prop := fun as P => ∃ x, as = [.d x] ∧ good x = true ∧ x.depth < d ∧ (wds x).length ≤ 100000 ∧ P (.str (Txt.join " " (wds x)))
theorem strs_map : ∀ l : List Str, strsD (l.map PyData.str) = some l
  | [] => rfl
  | y :: r => by rw [List.map_cons, strsD, strs_map r]; rfl
section
variable {P : Program} {w : World} {K : PySem.W.Frag} {mg : Str → Option Value} {base : Heap} {f : Addr} {fd : FuncData}
/-- what never is asked -/
theorem fn_never {k c : Nat} {ps : List Str} {sp : List EV → (D → Prop) → Prop} (h : ∀ as P, ¬ sp as P) : FnG P w K mg base CX0 k f fd ps (spD K c sp) :=
  ⟨fun vs H Q E ⟨W, B, G, as, Pd, r, a, z, _⟩ => (h as Pd z).elim, fun A st s H args us vs Q E r z1 z2 z3 z4 => by
    obtain ⟨W, B, G, as, Pd, r, a, z, _⟩ := z4
    exact (h as Pd z).elim⟩
theorem ok_words_of (T : Tb K mg) (d : Nat) (c_words_of : Cal P w K mg base "words_of" d ["thing"] 0 (spW d)) (F : Fun K "words_of" "words_of" s_words_of f fd) : FnG P w K mg base CX0 (d + 1) f fd ["thing"] (spD K 0 (spW (d + 1))) := by
  have nd := sc_words_of.nd
  refine okDG (k := d) F sc_words_of (fun as Q h => by obtain ⟨x, rfl, _⟩ := h; rfl) (fun cdv A fs s H E hr => have hu := hr.rm.units; have hgd := hr.gd; (gss_cons (gs_if (gt_val (ge_isi kit_tuple (by rfl) T.n_isinstance (by rfl) T.n_tuple (by decide +kernel) (ge_var 0))) (gss_cons (gs_setF (i := 1) nd rfl (.inl rfl) (gf_lst (ga_cons (ge_gl T.g_OPEN (by rfl)) ga_nil)))
      (gss_cons (gs_forC 0 PassesOwn.never rfl (gi_tup (ge_var 0)) (gg_name (i := 2) (vs := [2]) nd rfl (.inl rfl) (by decide)) (gss_one (gs_extend (i := 1) rfl (.inl rfl) (ge_cal c_words_of (hr.mono (by first | decide | omega)) (by rfl) (ga_cons (ge_var 2) ga_nil)))))
      (gss_one (gs_ret (ge_op od_add (ge_var 1) (ge_lst (ga_cons (ge_gl T.g_SHUT (by rfl)) ga_nil))))))) gss_nil)
      (gss_cons (gs_if (gt_cmp od_isN (ge_var 0) ge_non (nomark _)) (gss_one (gs_ret (ge_lst (ga_cons (ge_gl T.g_NONE (by rfl)) ga_nil)))) gss_nil)
      (gss_one (gs_ret (ge_lst (ga_cons (ge_if (gt_val (ge_isi kit_str (by rfl) T.n_isinstance (by rfl) T.n_str (by decide +kernel) (ge_var 0))) (ge_op od_add (ge_gl T.g_QUOTE (by rfl)) (ge_var 0)) (ge_callTy cd_strA (by rfl) T.n_str (by decide +kernel) (ga_cons (ge_var 0) ga_nil))) ga_nil))))))) (by decide) (fun as Q h => ?_)
  obtain ⟨x, rfl, hg, hd, hl, hQ⟩ := h
  have big := big_size
  cases x with
  | tuple xs =>
    have hg' : goodA xs = true := by simpa [good] using hg
    have hd' : PyData.depthAll xs + 1 < d + 1 := by simpa [PyData.depth] using hd
    have hl' : (wdsA xs).length + 2 ≤ 100000 := by
      rw [wds, List.length_cons, List.length_append] at hl
      exact hl
    refine ⟨(show (1 : Nat) ≤ sizeLine by decide), Nat.le_of_eq (Nat.mul_zero _), ?_⟩
    refine forl_inv (fun i env => ∃ o, env = [.d (.tuple xs), .own ((("(" : Str) :: wdsA (xs.take i)).map .str), o]) ⟨.un, ?_⟩ (fun i x env E' hx hI nx _ _ _ => ?_) fun env hI => ?_
    · rw [List.take_zero, wdsA]
      rfl
    · obtain ⟨o, rfl⟩ := hI
      have hm : x ∈ xs := List.mem_of_getElem? hx
      have h1 := depthA_mem hm
      have h2 := wdsA_le xs (i + 1)
      rw [wdsA_take hx, List.length_append] at h2
      refine ⟨⟨_, rfl⟩, x, rfl, goodA_mem hg' hm, by omega, by omega, ?_, nx _ ⟨.d x, ?_⟩⟩
      · rw [List.length_map, List.length_map, List.length_cons]
        omega
      · rw [wdsA_take hx, ← List.map_append, List.cons_append]
        rfl
    · obtain ⟨o, rfl⟩ := hI
      rw [List.take_length]
      refine ⟨(show (1 : Nat) ≤ sizeLine by decide), ?_, ?_⟩
      · rw [List.length_map, List.length_cons]
        show (wdsA xs).length + 1 + 1 ≤ sizeLine
        omega
      · rw [wds, ← List.cons_append, List.map_append] at hQ
        exact hQ
  | none => exact ⟨(show (1 : Nat) ≤ sizeLine by decide), hQ⟩
  | str z =>
    simp only [good, Bool.and_eq_true, decide_eq_true_eq] at hg
    exact ⟨(show 1 + z.length ≤ sizeLine by omega), (show (1 : Nat) ≤ sizeLine by decide), hQ⟩
  | int i =>
    have h1 := (good_show (.int i) hg).1
    simp only [PyData.showable, decide_eq_true_eq] at h1
    exact ⟨h1, (show (1 : Nat) ≤ sizeLine by decide), hQ⟩
  | _ => simp [good] at hg
theorem ok_show_thing (T : Tb K mg) (d : Nat) (c_words_of : Cal P w K mg base "words_of" d ["thing"] 0 (spW d)) (F : Fun K "show_thing" "show_thing" s_show_thing f fd) : FnG P w K mg base CX0 (d + 1) f fd ["thing"] (spD K 0 (spShow d)) := by
  have nd := sc_show_thing.nd
  refine okDG (k := d) F sc_show_thing (fun as Q h => by obtain ⟨x, rfl, _⟩ := h; rfl) (fun cdv A fs s H E hr => have hu := hr.rm.units; have hgd := hr.gd; (gss_one (gs_ret (ge_bm PySem.F.plainAttrs_str PySem.F.slot_str_join PySem.F.type_str_join md_join ge_str (ga_cons (ge_cal c_words_of (hr.mono (by first | decide | omega)) (by rfl) (ga_cons (ge_var 0) ga_nil)) ga_nil))))) (by decide) (fun as Q h => ?_)
  obtain ⟨x, rfl, hg, hd, hl, hQ⟩ := h
  refine ⟨rfl, x, rfl, hg, hd, hl, ?_⟩
  show match strsD ((wds x).map PyData.str) with | some ys => _ | none => _
  rw [strs_map]
  have h1 := sum_len (wds_ok x hg)
  refine ⟨?_, hQ⟩
  show _ + (wds x).length * 1 ≤ 16777216
  omega
theorem ok_law_words_of (T : Tb K mg) (d : Nat) (c_law_words_of : Cal P w K mg base "_law_words_of" d ["_law_one"] 0 (spW d)) (F : Fun K "_law_words_of" "_law_words_of" s_law_words_of f fd) : FnG P w K mg base CX0 (d + 1) f fd ["_law_one"] (spD K 0 (spW (d + 1))) := by
  have nd := sc_law_words_of.nd
  refine okDG (k := d) F sc_law_words_of (fun as Q h => by obtain ⟨x, rfl, _⟩ := h; rfl) (fun cdv A fs s H E hr => have hu := hr.rm.units; have hgd := hr.gd; (gss_cons (gs_if (gt_val (ge_isi kit_tuple (by rfl) T.n_isinstance (by rfl) T.n_tuple (by decide +kernel) (ge_var 0))) (gss_cons (gs_set (i := 1) nd rfl (.inl rfl) (ge_lst (ga_cons ge_str ga_nil)))
      (gss_cons (gs_forC 0 PassesOwn.never rfl (gi_tup (ge_var 0)) (gg_name (i := 2) (vs := [2]) nd rfl (.inl rfl) (by decide)) (gss_one (gs_set (i := 1) nd rfl (.inl rfl) (ge_op od_add (ge_var 1) (ge_cal c_law_words_of (hr.mono (by first | decide | omega)) (by rfl) (ga_cons (ge_var 2) ga_nil))))))
      (gss_one (gs_ret (ge_op od_add (ge_var 1) (ge_lst (ga_cons ge_str ga_nil))))))) gss_nil)
      (gss_one (gs_ret (ge_lst (ga_cons (ge_ix od_ix (ge_lst (ga_cons ge_str (ga_cons (ge_op od_add ge_str (ge_callTy cd_strA (by rfl) T.n_str (by decide +kernel) (ga_cons (ge_var 0) ga_nil))) (ga_cons (ge_callTy cd_strA (by rfl) T.n_str (by decide +kernel) (ga_cons (ge_var 0) ga_nil)) ga_nil)))) (ge_op od_add (ge_callTy cd_int (by rfl) T.n_int (by decide +kernel) (ga_cons (ge_cmp od_notN (ge_var 0) ge_non (nomark _)) ga_nil)) (ge_callTy cd_int (by rfl) T.n_int (by decide +kernel) (ga_cons (ge_isi kit_int (by rfl) T.n_isinstance (by rfl) T.n_int (by decide +kernel) (ge_var 0)) ga_nil))) (fun _ _ => rfl)) ga_nil)))))) (by decide) (fun as Q h => ?_)
  obtain ⟨x, rfl, hg, hd, hl, hQ⟩ := h
  have big := big_size
  have s1 : (1 : Nat) ≤ sizeLine := by decide
  have s3 : (3 : Nat) ≤ sizeLine := by decide
  cases x with
  | tuple xs =>
    have hg' : goodA xs = true := by simpa [good] using hg
    have hd' : PyData.depthAll xs + 1 < d + 1 := by simpa [PyData.depth] using hd
    have hl' : (wdsA xs).length + 2 ≤ 100000 := by
      rw [wds, List.length_cons, List.length_append] at hl
      exact hl
    refine ⟨s1, Nat.le_of_eq (Nat.mul_zero _), ?_⟩
    refine forl_inv (fun i env => ∃ o, env = [.d (.tuple xs), .d (.list ((("(" : Str) :: wdsA (xs.take i)).map .str)), o]) ⟨.un, ?_⟩ (fun i x env E' hx hI nx _ _ _ => ?_) fun env hI => ?_
    · rw [List.take_zero, wdsA]
      rfl
    · obtain ⟨o, rfl⟩ := hI
      have hm : x ∈ xs := List.mem_of_getElem? hx
      have h1 := depthA_mem hm
      have h2 := wdsA_le xs (i + 1)
      rw [wdsA_take hx, List.length_append] at h2
      refine ⟨x, rfl, goodA_mem hg' hm, by omega, by omega, ?_, nx _ ⟨.d x, ?_⟩⟩
      · rw [List.length_map, List.length_map, List.length_cons]
        omega
      · rw [wdsA_take hx, ← List.map_append, List.cons_append]
        rfl
    · obtain ⟨o, rfl⟩ := hI
      rw [List.take_length]
      refine ⟨s1, ?_, ?_⟩
      · rw [List.length_map, List.length_cons]
        show (wdsA xs).length + 1 + 1 ≤ sizeLine
        omega
      · rw [wds, ← List.cons_append, List.map_append] at hQ
        exact hQ
  | none => exact ⟨(show (1 + 4 : Nat) ≤ sizeLine by decide), s3, _, rfl, s1, hQ⟩
  | str z =>
    simp only [good, Bool.and_eq_true, decide_eq_true_eq] at hg
    exact ⟨(show 1 + z.length ≤ sizeLine by omega), s3, _, rfl, s1, hQ⟩
  | int i =>
    have h1 := (good_show (.int i) hg).1
    simp only [PyData.showable, decide_eq_true_eq] at h1
    have h2 := numT_len (i := i) (by simpa [good] using hg)
    exact ⟨h1, (show 1 + (numT i).length ≤ sizeLine by omega), h1, s3, _, rfl, s1, hQ⟩
  | _ => simp [good] at hg
end
end L67
namespace L67
open PySem PySem.Spec PyProof.Rows L2 DL
def signsT : Str := "!\"#$&'()*+,-./0123456789:;<=>?@AZ[\\]^_`az{|}~"
theorem signs_ok : signsT.cps.toList.all signOk = true := by decide +kernel
theorem rangeD_len (lo : Int) (n : Nat) : (rangeD lo n).length = n := by rw [rangeD, List.length_map, List.length_range]
def one (c : Nat) : Str := ⟨#[c]⟩
theorem signs_of : ∀ ys : List D, (∀ y ∈ ys, ∃ c : Nat, signOk c = true ∧ y = .str (one c)) → ∃ cs : List Nat, ys = cs.map (fun c => .str (one c)) ∧ cs.all signOk = true ∧ cs.length = ys.length
  | [], _ => ⟨[], rfl, rfl, rfl⟩
  | y :: r, h => by
    obtain ⟨c, hc, rfl⟩ := h y List.mem_cons_self
    obtain ⟨cs, rfl, h2, h3⟩ := signs_of r fun z hz => h z (List.mem_cons_of_mem _ hz)
    exact ⟨c :: cs, rfl, by rw [List.all_cons, hc, h2]; rfl, by rw [List.length_cons, List.length_cons, h3]⟩
theorem strs_codes (cs : List Nat) : strsD (cs.map fun c => PyData.str (one c)) = some (cs.map one) := by
  have e : (cs.map fun c => PyData.str (one c)) = (cs.map one).map PyData.str := by rw [List.map_map]; rfl
  rw [e, strs_map]
theorem glue : ∀ cs : List Nat, TL.joinL [] (cs.map fun c => [c]) = cs
  | [] => rfl
  | [c] => rfl
  | c :: d :: r => by
    show [c] ++ ([] ++ TL.joinL [] ((d :: r).map fun c => [c])) = _
    rw [glue (d :: r)]
    rfl
theorem join_codes (cs : List Nat) : (Txt.join "" (cs.map one)).cps.toList = cs := by
  rw [TL.join_eq]
  show TL.tl (Str.join "" (cs.map one)) = cs
  rw [TL.tl_join, List.map_map]
  exact glue cs
theorem sum_codes : ∀ cs : List Nat, ((cs.map one).map (·.length)).sum = cs.length
  | [] => rfl
  | c :: r => by
    rw [List.map_cons, List.map_cons, List.sum_cons, sum_codes r, List.length_cons]
    show 1 + r.length = r.length + 1
    omega
def wmax : Nat → Nat
  | 0 => 1
  | n + 1 => 2 + 4 * wmax n
theorem wmax_pos : ∀ n, 1 ≤ wmax n
  | 0 => Nat.le_refl _
  | n + 1 => by rw [wmax]; omega
def cT : Nat → Nat
  | 0 => 0
  | m + 1 => 60 + 4 * cT m
def spT (m : Nat) : List EV → (D → Prop) → Prop := fun as P => ∃ n : Nat, as = [.hd, .d (.int n)] ∧ n < m ∧ ∀ y : D, good y = true → y.depth ≤ n → (wds y).length ≤ wmax n → P y
theorem good_word {z : Str} (h : (decide (0 < z.length) && (decide (z.length ≤ 6) && z.cps.toList.all signOk)) = true) : good (.str z) = true := by rw [good]; exact h
def wordsW : List Str := ["none", "(", ")", "'", "-1", "0", "gate", "and"]
theorem wordsW_ok : ∀ z ∈ wordsW, (decide (0 < z.length) && (decide (z.length ≤ 6) && z.cps.toList.all signOk)) = true := by decide +kernel
def thingRest : MS := sSeq (sIf (mCmpT cEq (mVar 2) (mC (.int 3))) (sRet (mC .none)) sNext)
  (sSeq (sIf (mCmpT cEq (mVar 2) (mC (.int 4))) (sSeq (sSet 3 (mC (.str signsT))) (sRet (mBMt "str" fJoin (mC (.str "")) (mCons (mPubF (mLcC (0 + (0 + (0 + 0 + 0 + 1))) 6 (miRng1 (mCons (mOp dAdd (mC (.int 1)) (mCall spDraw (mConsH 0 (mCons (mC (.int 6)) mNil)))) mNil)) (gNm 5) mYes
      (mOp dIx (mVar 3) (mCall spDraw (mConsH 0 (mCons (mCB dLen (mCons (mVar 3) mNil)) mNil)))) [5])) mNil)))) sNext)
  (sSeq (sIf (mCmpT cEq (mVar 2) (mC (.int 5))) (sRet (mOp dIx (mPubF (mLst (mCons (mC (.str "none")) (mCons (mC (.str "(")) (mCons (mC (.str ")")) (mCons (mC (.str "'")) (mCons (mC (.str "-1")) (mCons (mC (.str "0")) (mCons (mC (.str "gate")) (mCons (mC (.str "and")) mNil)))))))))) (mCall spDraw (mConsH 0 (mCons (mC (.int 8)) mNil))))) sNext)
  (sSeq (sSet 4 (mPubF (mLst (mCons (mC (.int 0)) (mCons (mC (.int 9)) (mCons (mC (.int 10)) (mCons (mC (.int 99)) (mCons (mC (.int 100)) (mCons (mCall spDraw (mConsH 0 (mCons (mC (.int 1000)) mNil))) (mCons (mOp dSub (mOp dPow (mC (.int 10)) (mC (.int 39))) (mCall spDraw (mConsH 0 (mCons (mC (.int 9)) mNil)))) (mCons (mCall spDraw (mConsH 0 (mCons (mOp dPow (mC (.int 10)) (mC (.int 12))) mNil))) mNil)))))))))))
    (sRet (mOp dMul (mOp dIx (mVar 4) (mCall spDraw (mConsH 0 (mCons (mC (.int 8)) mNil)))) (mOp dIx (mPubF (mLst (mCons (mC (.int 1)) (mCons (mUn dNeg (mC (.int 1))) mNil)))) (mCall spDraw (mConsH 0 (mCons (mC (.int 2)) mNil)))))))))
theorem pow39 : CPow 10 39 := ⟨by decide, by decide, by decide⟩
theorem pow12 : CPow 10 12 := ⟨by decide, by decide, by decide⟩
theorem thing_rest {Q : D → Prop} {n way : Int} {N : DEnv → Prop} (atom : ∀ y : D, good y = true → (wds y).length ≤ 1 → y.depth = 0 → Q y) (w0 : 0 ≤ way) (w1 : way < 7) : thingRest { nx := N, rt := Q } [.hd, .d (.int n), .d (.int way), .un, .un, .un] := by
  have big := big_size
  show match decide (way = 3) with | true => _ | false => _
  cases h3 : decide (way = 3) with
  | true => exact atom .none rfl (by rw [wds]; exact Nat.le_refl _) rfl
  | false =>
    show match decide (way = 4) with | true => _ | false => _
    cases h4 : decide (way = 4) with
    | true =>
      refine ⟨rfl, 6, rfl, by decide, by decide, fun r r0 r1 => ⟨by omega, by omega, ?_, fun i hi xs => ?_, ?_⟩⟩
      · rw [rangeD_len]
        omega
      · have : i = 5 := by simpa using hi
        subst this
        simp
      · refine lcl_any (fun y => ∃ c : Nat, signOk c = true ∧ y = .str (one c)) _ _ (fun x hx k hk => ?_) ?_ fun ys h1 h2 => ?_
        · refine ⟨rfl, by decide +kernel, _, rfl, by decide +kernel, by decide +kernel, fun j j0 j1 => ⟨by decide +kernel, ?_⟩⟩
          obtain ⟨c, ec, mc, _⟩ := atI_lt (xs := signsT.cps.toList) (i := j) j0 (by rw [Array.length_toList]; exact j1)
          exact ⟨c, ec, rfl, hk _ ⟨c, List.all_eq_true.mp signs_ok c mc, rfl⟩⟩
        · rw [rangeD_len, List.length_nil]
          omega
        · rw [rangeD_len] at h1
          obtain ⟨cs, rfl, c1, c2⟩ := signs_of ys h2
          rw [List.nil_append]
          dsimp only [mNil, mDats, dats, Option.map, fJoin]
          rw [strs_codes]
          refine ⟨?_, ?_⟩
          · rw [sum_codes, List.length_map]
            show cs.length + cs.length * 0 ≤ _
            omega
          · have ej := join_codes cs
            have el : (Txt.join "" (cs.map one)).length = cs.length := by
              rw [← ej, Array.length_toList]
              rw [ej]
              rfl
            refine atom _ (good_word ?_) (by rw [wds]; exact Nat.le_refl _) rfl
            rw [el, ej, c1, decide_eq_true (by omega), decide_eq_true (by omega)]
            rfl
    | false =>
      show match decide (way = 5) with | true => _ | false => _
      cases h5 : decide (way = 5) with
      | true =>
        refine ⟨(show (8 : Nat) ≤ sizeLine by decide), 8, rfl, by decide, by decide, fun j j0 j1 => ?_⟩
        obtain ⟨y, ey, my, _⟩ := atI_lt (xs := wordsW.map PyData.str) (i := j) j0 (by exact j1)
        obtain ⟨z, hz, rfl⟩ := List.mem_map.mp my
        exact ⟨_, ey, atom _ (good_word (wordsW_ok z hz)) (by rw [wds]; exact Nat.le_refl _) rfl⟩
      | false =>
        refine ⟨1000, rfl, by decide, by decide, fun a a0 a1 => ⟨pow39, 9, rfl, by decide, by decide, fun b b0 b1 => ⟨pow12, _, rfl, by decide +kernel, by decide +kernel, fun c c0 c1 => ⟨(show (8 : Nat) ≤ sizeLine by decide), 8, rfl, by decide, by decide, fun j j0 j1 => ?_⟩⟩⟩⟩
        obtain ⟨v, ev, hv⟩ : ∃ v : Int, atI [PyData.int 0, .int 9, .int 10, .int 99, .int 100, .int a, .int (10 ^ (39 : Int).toNat - b), .int c] j = some (.int v) ∧ 0 ≤ v ∧ v ≤ 10 ^ 39 := by
          have c2 : c < 10 ^ 12 := c1
          have hj : j = 0 ∨ j = 1 ∨ j = 2 ∨ j = 3 ∨ j = 4 ∨ j = 5 ∨ j = 6 ∨ j = 7 := by omega
          rcases hj with rfl | rfl | rfl | rfl | rfl | rfl | rfl | rfl
          · exact ⟨0, rfl, by decide, by decide⟩
          · exact ⟨9, rfl, by decide, by decide⟩
          · exact ⟨10, rfl, by decide, by decide⟩
          · exact ⟨99, rfl, by decide, by decide⟩
          · exact ⟨100, rfl, by decide, by decide⟩
          · exact ⟨a, rfl, by omega, by omega⟩
          · refine ⟨_, rfl, ?_, ?_⟩
            · show (0 : Int) ≤ 10 ^ 39 - b
              omega
            · show (10 ^ 39 - b : Int) ≤ 10 ^ 39
              omega
          · exact ⟨c, rfl, by omega, by omega⟩
        refine ⟨_, ev, (show (2 : Nat) ≤ sizeLine by decide), 2, rfl, by decide, by decide, fun q q0 q1 => ?_⟩
        obtain ⟨g, eg, hg⟩ : ∃ g : Int, atI [PyData.int 1, .int (-1)] q = some (.int g) ∧ (g = 1 ∨ g = -1) := by
          have hq : q = 0 ∨ q = 1 := by omega
          rcases hq with rfl | rfl
          · exact ⟨1, rfl, .inl rfl⟩
          · exact ⟨-1, rfl, .inr rfl⟩
        refine ⟨_, eg, ?_, atom (.int (v * g)) ?_ (by rw [wds]; exact Nat.le_refl _) rfl⟩
        · rcases hg with rfl | rfl
          · exact .inr ⟨by decide, by decide⟩
          · exact .inr ⟨by decide, by decide⟩
        · rw [good]
          refine decide_eq_true ?_
          rcases hg with rfl | rfl <;> omega
section
variable {P : Program} {w : World} {K : PySem.W.Frag} {mg : Str → Option Value} {base : Heap} {f : Addr} {fd : FuncData}
theorem ok_thing (T : Tb K mg) (m : Nat) (c_law_draw : Cal P w K mg base "_law_draw" 1 ["_law_deck_here", "_law_sides"] 1 spDraw) (c_law_thing : Cal P w K mg base "_law_thing" (m + 1) ["_law_deck_here", "_law_deep"] (cT m) (spT m))
    (F : Fun K "_law_thing" "_law_thing" s_law_thing f fd) : FnG P w K mg base CX0 (m + 2) f fd ["_law_deck_here", "_law_deep"] (spD K (cT (m + 1)) (spT (m + 1))) := by
  have nd := sc_law_thing.nd
  refine okDG (k := m + 1) F sc_law_thing (fun as Q h => by obtain ⟨n, rfl, _⟩ := h; rfl) (fun cdv A fs s H E hr => have hu := hr.rm.units; have hgd := hr.gd; (gss_cons (gs_set (i := 2) nd rfl (.inl rfl) (ge_cal c_law_draw (hr.mono (by first | decide | omega)) (by rfl) (ga_hd 0 (ga_cons ge_int ga_nil))))
      (gss_cons (gs_if (PW.pt (gt_and (gt_cmp od_gt (ge_var 1) ge_int (nomark _)) (pw_and1 (gt_cmp od_lt (ge_var 2) ge_int (nomark _))))) (gss_one (gs_ret (ge_callTy cd_tuple (by rfl) T.n_tuple (by decide +kernel) (ga_cons (ge_pub (gf_lc (4 * cT m) rfl nd (gi_range1 (by rfl) T.n_range (ga_cons (ge_cal c_law_draw (hr.mono (by first | decide | omega)) (by rfl) (ga_hd 0 (ga_cons ge_int ga_nil))) ga_nil)) (blkOk_by (own := [("_law_k", 5)]) (N := N_law_thing) (sc := defScope s_law_thing) (by decide +kernel)) (fun _ _ _ _ _ => (gg_name (i := 5) (vs := (List.map (·.2) ([("_law_k", 5)] : List (Str × Nat)))) nd rfl (.inl rfl) (by decide))) (fun _ _ _ _ _ => gts_nil) (fun _ _ _ _ _ => (ge_cal c_law_thing (hr.mono (by first | decide | omega)) (by rfl) (ga_hd 0 (ga_cons (ge_op od_sub (ge_var 1) ge_int) ga_nil)))))) ga_nil)))) gss_nil)
      (gss_cons (gs_if (gt_cmp (od_eq hu) (ge_var 2) ge_int (nomark _)) (gss_one (gs_ret ge_non)) gss_nil)
      (gss_cons (gs_if (gt_cmp (od_eq hu) (ge_var 2) ge_int (nomark _)) (gss_cons (gs_set (i := 3) nd rfl (.inr rfl) ge_str)
      (gss_one (gs_ret (ge_bm PySem.F.plainAttrs_str PySem.F.slot_str_join PySem.F.type_str_join md_join ge_str (ga_cons (ge_pub (gf_lc 6 rfl nd (gi_range1 (by rfl) T.n_range (ga_cons (ge_op od_add ge_int (ge_cal c_law_draw (hr.mono (by first | decide | omega)) (by rfl) (ga_hd 0 (ga_cons ge_int ga_nil)))) ga_nil)) (blkOk_by (own := [("_law_k", 5)]) (N := N_law_thing) (sc := defScope s_law_thing) (by decide +kernel)) (fun _ _ _ _ _ => (gg_name (i := 5) (vs := (List.map (·.2) ([("_law_k", 5)] : List (Str × Nat)))) nd rfl (.inl rfl) (by decide))) (fun _ _ _ _ _ => gts_nil) (fun _ _ _ _ _ => (ge_ix od_ix (ge_var 3) (ge_cal c_law_draw (hr.mono (by first | decide | omega)) (by rfl) (ga_hd 0 (ga_cons (ge_callB cd_len (by rfl) T.n_len PySem.boot_len (ga_cons (ge_var 3) ga_nil)) ga_nil))) (fun _ _ => rfl))))) ga_nil))))) gss_nil)
      (gss_cons (gs_if (gt_cmp (od_eq hu) (ge_var 2) ge_int (nomark _)) (gss_one (gs_ret (ge_ix od_ix (ge_lst (ga_cons ge_str (ga_cons ge_str (ga_cons ge_str (ga_cons ge_str (ga_cons ge_str (ga_cons ge_str (ga_cons ge_str (ga_cons ge_str ga_nil))))))))) (ge_cal c_law_draw (hr.mono (by first | decide | omega)) (by rfl) (ga_hd 0 (ga_cons ge_int ga_nil))) (fun _ _ => rfl)))) gss_nil)
      (gss_cons (gs_set (i := 4) nd rfl (.inl rfl) (ge_lst (ga_cons ge_int (ga_cons ge_int (ga_cons ge_int (ga_cons ge_int (ga_cons ge_int (ga_cons (ge_cal c_law_draw (hr.mono (by first | decide | omega)) (by rfl) (ga_hd 0 (ga_cons ge_int ga_nil))) (ga_cons (ge_op od_sub (ge_op od_pow ge_int ge_int) (ge_cal c_law_draw (hr.mono (by first | decide | omega)) (by rfl) (ga_hd 0 (ga_cons ge_int ga_nil)))) (ga_cons (ge_cal c_law_draw (hr.mono (by first | decide | omega)) (by rfl) (ga_hd 0 (ga_cons (ge_op od_pow ge_int ge_int) ga_nil))) ga_nil))))))))))
      (gss_one (gs_ret (ge_op od_mul (ge_ix od_ix (ge_var 4) (ge_cal c_law_draw (hr.mono (by first | decide | omega)) (by rfl) (ga_hd 0 (ga_cons ge_int ga_nil))) (fun _ _ => rfl)) (ge_ix od_ix (ge_lst (ga_cons ge_int (ga_cons (ge_un ud_neg ge_int) ga_nil))) (ge_cal c_law_draw (hr.mono (by first | decide | omega)) (by rfl) (ga_hd 0 (ga_cons ge_int ga_nil))) (fun _ _ => rfl)))))))))))) (by rw [cT]; omega) (fun as Q h => ?_)
  obtain ⟨n, rfl, hn, hQ⟩ := h
  have big := big_size
  have wp := wmax_pos n
  have atom : ∀ y : D, good y = true → (wds y).length ≤ 1 → y.depth = 0 → Q y := fun y h1 h2 h3 => hQ y h1 (by omega) (by omega)
  refine ⟨7, rfl, by decide, by decide, fun way w0 w1 => ?_⟩
  have rest : thingRest { nx := fun _ => Q .none, rt := Q } [.hd, .d (.int n), .d (.int way), .un, .un, .un] := thing_rest atom w0 w1
  show match decide ((0 : Int) < (n : Int)) with | true => _ | false => _
  cases h0 : decide ((0 : Int) < (n : Int)) with
  | false => exact rest
  | true =>
    show match decide (way < 3) with | true => _ | false => _
    cases h1 : decide (way < 3) with
    | false => exact rest
    | true =>
      have n0 : 0 < n := by have := of_decide_eq_true h0; omega
      refine ⟨5, rfl, by decide, by decide, fun r r0 r1 => ⟨by omega, by omega, ?_, fun i hi xs => ?_, ?_⟩⟩
      · rw [rangeD_len]
        have e : 0 + (0 + 0 + 0 + cT m) = cT m := by omega
        rw [e]
        exact Nat.mul_le_mul_right _ (by omega)
      · have : i = 5 := by simpa using hi
        subst this
        simp [env0]
      · refine lcl_any (fun y => good y = true ∧ y.depth ≤ n - 1 ∧ (wds y).length ≤ wmax (n - 1)) _ _ (fun x hx k hk => ?_) ?_ fun ys y1 y2 => ?_
        · refine ⟨rfl, n - 1, ?_, by omega, fun y a b c => ⟨rfl, hk y ⟨a, b, c⟩⟩⟩
          have e : (n : Int) - 1 = ((n - 1 : Nat) : Int) := by omega
          show [EV.hd, .d (.int ((n : Int) - 1))] = _
          rw [e]
        · rw [rangeD_len, List.length_nil]
          omega
        · rw [rangeD_len] at y1
          obtain ⟨n', rfl⟩ : ∃ n', n = n' + 1 := ⟨n - 1, by omega⟩
          rw [Nat.add_sub_cancel] at y2
          refine hQ (.tuple ys) ?_ ?_ ?_
          · rw [good]
            exact goodA_of fun y hy => (y2 y hy).1
          · rw [PyData.depth]
            have := depthA_of fun y hy => (y2 y hy).2.1
            omega
          · rw [wds, List.length_cons, List.length_append, wmax]
            have h2 := wdsA_len_of fun y hy => (y2 y hy).2.2
            have h3 : ys.length * wmax n' ≤ 4 * wmax n' := Nat.mul_le_mul_right _ (by omega)
            show (wdsA ys).length + 1 + 1 ≤ _
            omega
end
end L67
namespace DL
open PySem PySem.Spec PyProof.Rows L2
/-! ### a list of one's own lists, beside the slots -/
def NoOwn (env : DEnv) : Prop := ∀ (i : Nat) xs, env[i]? ≠ some (.own xs)
section
variable {K : PySem.W.Frag} {W : Wd} {B : Nat} {G0 H0 G H G' H' : Hp} {env env' : DEnv} {σ σ' : L2.St}
theorem Rel.base (R : Rel K W B G0 H0 G env σ H) (no : NoOwn env) : Rel K W B G H G env σ H :=
  { R.toRW.self with
    len := R.len
    slot := fun i e s h1 h2 => by
      have q := R.slot i e s h1 h2
      cases e with
      | un => trivial
      | d x => exact q
      | own xs => exact absurd h1 (no i xs)
      | hd => exact q
    dis := fun i j xi xj l ne h1 => absurd h1 (no i xi) }
theorem Rel.rebase (R : Rel K W B G H G' env σ H') (no : NoOwn env) (r : RW W B G0 H0 G' H') : Rel K W B G0 H0 G' env σ H' :=
  { r with
    len := R.len
    slot := fun i e s h1 h2 => by
      have q := R.slot i e s h1 h2
      cases e with
      | un => trivial
      | d x => exact q
      | own xs => exact absurd h1 (no i xs)
      | hd => exact q
    dis := fun i j xi xj l ne h1 => absurd h1 (no i xi) }
/-- an object that is neither published nor the caller's is written -/
theorem Rel.poke {a : Addr} {o : HO} (R : Rel K W B G0 H0 G env σ H) (no : NoOwn env) (hg : G a = none) (h0 : H0 a = none) (hm : ¬ W.mu a) : Rel K W B G0 H0 G env σ (upd H a o) where
  g0 := R.g0
  pub := fun b u e => by
    have ne : b ≠ a := fun z => by
      subst z
      rw [hg] at e
      cases e
    rw [upd_ne ne]
    exact R.pub b u e
  gm := R.gm
  inv := W.loc _ H _ (fun b m => by
    have ne : b ≠ a := fun z => by
      subst z
      exact hm m
    rw [upd_ne ne]) R.inv
  fr := fun b u e m => by
    have ne : b ≠ a := fun z => by
      subst z
      rw [h0] at e
      cases e
    rw [upd_ne ne]
    exact R.fr b u e m
  pn := R.pn
  len := R.len
  slot := fun i e s h1 h2 => by
    have q := R.slot i e s h1 h2
    cases e with
    | un => trivial
    | d x => exact q
    | own xs => exact absurd h1 (no i xs)
    | hd => exact q
  dis := fun i j xi xj l ne h1 => absurd h1 (no i xi)
theorem Rel.set_un {i : Nat} {s : Option V} (R : Rel K W B G0 H0 G env σ H) (no : NoOwn env) : Rel K W B G0 H0 G (env.set i .un) (σ.set i s) H :=
  { R.toRW with
    len := by rw [List.length_set, List.length_set]; exact R.len
    slot := fun j e t h1 h2 => by
      by_cases z : i = j
      · subst z
        by_cases hl : i < env.length
        · rw [List.getElem?_set_self hl] at h1
          cases h1
          trivial
        · rw [List.getElem?_eq_none (by rw [List.length_set]; omega)] at h1
          cases h1
      · rw [List.getElem?_set_ne z] at h1 h2
        exact R.slot j e t h1 h2
    dis := fun j k xi xj l ne h1 => by
      by_cases z : i = j
      · subst z
        by_cases hl : i < env.length
        · rw [List.getElem?_set_self hl] at h1
          cases h1
        · rw [List.getElem?_eq_none (by rw [List.length_set]; omega)] at h1
          cases h1
      · rw [List.getElem?_set_ne z] at h1
        exact absurd h1 (no j xi) }
/-- a list that is one's own -/
structure Own1 (K : PySem.W.Frag) (W : Wd) (H0 G H : Hp) (a : Addr) (xs : List D) : Prop where
  ex : ∃ vs, H a = some (.lst vs) ∧ DrAll K G vs xs
  g : G a = none
  h0 : H0 a = none
  mu : ¬ W.mu a
theorem Own1.keep {a : Addr} {xs : List D} (h : Own1 K W H0 G H a xs) (s : Same G G') (g : G' a = none) (e : H' a = H a) : Own1 K W H0 G' H' a xs := by
  obtain ⟨vs, h1, h2⟩ := h.ex
  exact ⟨⟨vs, e.trans h1, dpAll_same s h2⟩, g, h.h0, h.mu⟩
/-- the stack: a list at l of lists -/
structure Sx (K : PySem.W.Frag) (W : Wd) (B : Nat) (G0 H0 G H : Hp) (env : DEnv) (σ : L2.St) (l : Addr) (st : List (Addr × List D)) : Prop where
  rel : Rel K W B G0 H0 G env σ H
  no : NoOwn env
  hl : H l = some (.lst (st.map fun p => .ref p.1))
  gl : G l = none
  h0 : H0 l = none
  mu : ¬ W.mu l
  nd : (l :: st.map (·.1)).Nodup
  own : ∀ p ∈ st, Own1 K W H0 G H p.1 p.2
theorem Sx.via {l : Addr} {st : List (Addr × List D)} (S : Sx K W B G0 H0 G H env σ l st) (R : Rel K W B G H G' env' σ' H') (no : NoOwn env') : Sx K W B G0 H0 G' H' env' σ' l st := by
  have kg : ∀ a o, H a = some o → G a = none → G' a = none := fun a o h1 h2 => by
    cases z : G' a with
    | none => rfl
    | some u =>
      rw [R.pn a u z h2] at h1
      cases h1
  refine ⟨R.rebase no (S.rel.toRW.trans R.toRW), no, R.fr _ _ S.hl S.mu, kg _ _ S.hl S.gl, S.h0, S.mu, S.nd, fun p hp => ?_⟩
  have o := S.own p hp
  obtain ⟨vs, h1, h2⟩ := o.ex
  exact o.keep R.g0 (kg _ _ h1 o.g) ((R.fr _ _ h1 o.mu).trans h1.symm)
theorem Sx.ne {l : Addr} {st : List (Addr × List D)} (S : Sx K W B G0 H0 G H env σ l st) {p : Addr × List D} (hp : p ∈ st) : p.1 ≠ l := fun z =>
  (List.nodup_cons.mp S.nd).1 (z ▸ List.mem_map_of_mem hp)
theorem Sx.push {l p : Addr} {st : List (Addr × List D)} (S : Sx K W B G0 H0 G H env σ l st) (hp : H p = none) : Sx K W B G0 H0 G (upd (upd H p (.lst [])) l (.lst (st.map (fun q => .ref q.1) ++ [.ref p]))) env σ l (st ++ [(p, [])]) := by
  obtain ⟨R, f1, f2, f3, _⟩ := S.rel.fresh (o := .lst []) hp
  have pl : p ≠ l := fun z => by
    subst z
    rw [S.hl] at hp
    cases hp
  have np : ∀ q ∈ st, q.1 ≠ p := fun q hq z => by
    obtain ⟨vs, h1, _⟩ := (S.own q hq).ex
    rw [z, hp] at h1
    cases h1
  refine ⟨R.poke S.no S.gl S.h0 S.mu, S.no, ?_, S.gl, S.h0, S.mu, ?_, fun q hq => ?_⟩
  · rw [upd_same, List.map_append]
    rfl
  · rw [List.map_append, ← List.cons_append]
    refine List.nodup_append.mpr ⟨S.nd, by simp, fun a ha b hb z => ?_⟩
    have hb : b = p := by simpa using hb
    subst hb
    subst z
    rcases List.mem_cons.mp ha with e | e
    · exact pl e
    · obtain ⟨q, hq, e⟩ := List.mem_map.mp e
      exact np q hq e
  · rcases List.mem_append.mp hq with hq | hq
    · have o := S.own q hq
      refine o.keep (Same.refl _) o.g ?_
      rw [upd_ne (S.ne hq), upd_ne (np q hq)]
    · have e : q = (p, []) := by simpa using hq
      subst e
      refine ⟨⟨[], ?_, .nil⟩, f1, f2, f3⟩
      show upd (upd H p (.lst [])) l _ p = _
      rw [upd_ne pl, upd_same]
theorem Sx.pop {l a : Addr} {xs : List D} {st : List (Addr × List D)} (S : Sx K W B G0 H0 G H env σ l (st ++ [(a, xs)])) : Sx K W B G0 H0 G (upd H l (.lst (st.map fun q => .ref q.1))) env σ l st ∧ Own1 K W H0 G (upd H l (.lst (st.map fun q => .ref q.1))) a xs := by
  have al : a ≠ l := S.ne (p := (a, xs)) (by simp)
  refine ⟨⟨S.rel.poke S.no S.gl S.h0 S.mu, S.no, upd_same, S.gl, S.h0, S.mu, ?_, fun q hq => ?_⟩, ?_⟩
  · have := S.nd
    rw [List.map_append, ← List.cons_append] at this
    exact (List.nodup_append.mp this).1
  · have o := S.own q (List.mem_append_left _ hq)
    exact o.keep (Same.refl _) o.g (upd_ne (S.ne (List.mem_append_left _ hq)))
  · have o := S.own (a, xs) (by simp)
    exact o.keep (Same.refl _) o.g (upd_ne al)
theorem Sx.put {l a : Addr} {v : V} {x : D} {xs : List D} {vs : List V} {st : List (Addr × List D)} (S : Sx K W B G0 H0 G H env σ l (st ++ [(a, xs)])) (hv : H a = some (.lst vs)) (hd : DrAll K G vs xs) (dv : Dr K G v x) :
    Sx K W B G0 H0 G (upd H a (.lst (vs ++ [v]))) env σ l (st ++ [(a, xs ++ [x])]) := by
  have al : a ≠ l := S.ne (p := (a, xs)) (by simp)
  have o := S.own (a, xs) (by simp)
  refine ⟨S.rel.poke S.no o.g o.h0 o.mu, S.no, ?_, S.gl, S.h0, S.mu, ?_, fun q hq => ?_⟩
  · rw [upd_ne (Ne.symm al), S.hl, List.map_append, List.map_append]
    rfl
  · have := S.nd
    rw [List.map_append] at this ⊢
    exact this
  · rcases List.mem_append.mp hq with hq | hq
    · have o := S.own q (List.mem_append_left _ hq)
      refine o.keep (Same.refl _) o.g (upd_ne fun z => ?_)
      have h := S.nd
      rw [List.map_append, ← List.cons_append] at h
      exact (List.nodup_append.mp h).2.2 q.1 (List.mem_cons_of_mem _ (List.mem_map_of_mem hq)) a (by simp) z
    · have e : q = (a, xs ++ [x]) := by simpa using hq
      subst e
      exact ⟨⟨_, upd_same, dpAll_app hd (dpAll_one dv)⟩, o.g, o.h0, o.mu⟩
theorem Sx.base {l : Addr} {st : List (Addr × List D)} (S : Sx K W B G0 H0 G H env σ l st) : Rel K W B G H G env σ H := S.rel.base S.no
theorem Sx.grow {l : Addr} {st : List (Addr × List D)} (S : Sx K W B G0 H0 G H env σ l st) (g : Grow G H G' H') : Sx K W B G0 H0 G' H' env σ l st := S.via (S.base.grow g) S.no
theorem Sx.set_un {l : Addr} {i : Nat} {s : Option V} {st : List (Addr × List D)} (S : Sx K W B G0 H0 G H env σ l st) (no : NoOwn (env.set i .un)) : Sx K W B G0 H0 G H (env.set i .un) (σ.set i s) l st := { S with rel := S.rel.set_un S.no, no := no }
end
/-! ### a star at the end of targets -/
theorem pgs_star {X : Cx} {e : Expr} {es : List Expr} {t : TG} {u : TGs} {pos : Pos} (h1 : PG X e t) (h2 : PGs X es u) (hs : (assignEach (.Starred e pos :: es) X.env).map (·.2) = assign e X.env :: (assignEach es X.env).map (·.2) := by rfl) : PGs X (.Starred e pos :: es) (gCons t u) := by
  refine ⟨fun pins s σ H vs us Q I r h => ?_⟩
  obtain ⟨v, vr, e1, h⟩ := h
  subst e1
  cases r with
  | cons r rr =>
    rw [hs]
    exact assignInOrder_cons (thn (h1.run pins s σ H _ _ _ I r h) fun _ s1 ⟨σ1, H1, I1, q1⟩ => h2.run pins s1 σ1 H1 _ _ Q I1 rr q1)
theorem at_last {α : Type} (l : List α) (x : α) : atI (l ++ [x]) (-1) = some x := by
  unfold atI ixN
  have e1 : ¬ ((0 : Int) ≤ -1) := by decide
  rw [if_neg e1]
  have e2 : -((l ++ [x]).length : Int) ≤ -1 := by
    rw [List.length_append, List.length_singleton]
    omega
  rw [if_pos e2]
  have e3 : (-1 + ((l ++ [x]).length : Int)).toNat = l.length := by
    rw [List.length_append, List.length_singleton]
    omega
  show (l ++ [x])[(-1 + ((l ++ [x]).length : Int)).toNat]? = some x
  rw [e3]
  simp
end DL
namespace L67
open PySem PySem.Spec PyProof.Rows L2 DL
def spRead : List EV → (D → Prop) → Prop := fun as P => ∃ x, as = [.d (.str (Txt.join " " (wds x)))] ∧ good x = true ∧ (wds x).length ≤ 100000 ∧ P x
abbrev rdEnv (x : D) (o3 o4 : EV) : DEnv := [.d (.str (Txt.join " " (wds x))), .d (.list ((wds x).map .str)), .un, o3, o4, .un, .un, .un]
theorem noOwn_of {env : DEnv} (h : env.all (fun e => match e with | .own _ => false | _ => true) = true) : NoOwn env := fun i xs e => by
  have := List.all_eq_true.mp h _ (List.mem_of_getElem? e)
  cases this
theorem runs_head {x : D} {wd : Str} {ws : List Str} {rest : List (List D)} {top : List D} (r : Runs x (wd :: ws) rest top) : (rest ≠ [] ∨ top = []) ∧ (rest ≠ [] ∨ wd ≠ ")") := by
  cases r with
  | opn o _ => exact ⟨o, .inr (by decide +kernel)⟩
  | shut _ => exact ⟨.inl (by simp), .inl (by simp)⟩
  | part o hA _ => exact ⟨o, .inr (atom_ne hA).2⟩
theorem no_rd {x : D} {o3 o4 : EV} (h3 : ∀ xs, o3 ≠ .own xs) (h4 : ∀ xs, o4 ≠ .own xs) : NoOwn (rdEnv x o3 o4) := fun i xs e => by
  match i, e with
  | 0, e => cases e
  | 1, e => cases e
  | 2, e => cases e
  | 3, e => cases e; exact h3 xs rfl
  | 4, e => cases e; exact h4 xs rfl
  | 5, e => cases e
  | 6, e => cases e
  | 7, e => cases e
  | i + 8, e => cases e
theorem no_rdd {x y z : D} : NoOwn (rdEnv x (.d y) (.d z)) := no_rd (fun _ z => by cases z) (fun _ z => by cases z)
/-- what stands at word i -/
def St67 (K : PySem.W.Frag) (W : Wd) (B : Nat) (G0 H0 G4 : Hp) (l : Addr) (x : D) (i : Nat) (σ : L2.St) (H : Hp) : Prop := ∃ (G5 : Hp) (o3 o4 : EV) (st : List (Addr × List D)) (a : Addr) (top : List D), Same G4 G5 ∧ (∀ xs, o3 ≠ EV.own xs) ∧ (∀ xs, o4 ≠ EV.own xs) ∧ σ[2]? = some (some (.ref l)) ∧
  Sx K W B G0 H0 G5 H (rdEnv x o3 o4) σ l (st ++ [(a, top)]) ∧ Runs x ((wds x).drop i) (st.map (·.2)) top ∧ st.length ≤ i ∧ ∀ q ∈ st ++ [(a, top)], q.2.length ≤ i
def tRdTest (K : PySem.W.Frag) : TS := tIfS (tAnd (tTest (tOp (rEqD K) (tCB (fun xs H Q => ∃ p ys, xs = [V.ref p] ∧ (SqL K H p ys ∨ SqT K H p ys) ∧ Q (V.int ys.length) H) (tCons (tVar 2) tNil)) (tC (.int 1))))
  (tOr (tTest (tOp (rNeD K) (tOp (rIxL K) (tVar 2) (tC (.int 0))) (tLst tNil))) (tDT K (0 + 0) (mCmpT cEq (mVar 4) (mC (.str ")")))))) tNever tNext
def tRdStep (K : PySem.W.Frag) : TS := tIfS (tDT K (0 + 0) (mCmpT cEq (mVar 4) (mC (.str "(")))) (tDrop (tBM K "list" rAppend (tVar 2) (tCons (tLst tNil) tNil)))
  (tIfS (tDT K (0 + 0) (mCmpT cEq (mVar 4) (mC (.str ")"))))
    (tSeq (tAsg (tBM0 K "list" rPop (tVar 2)) (gName 5)) (tDrop (tBM K "list" rAppend (tOp (rIxL K) (tVar 2) (tUn (rU fun i => .int (-i)) (tC (.int 1))))
      (tCons (tCB (fun xs H Q => ∃ p ys, xs = [V.ref p] ∧ ((SqL K H p ys ∧ ∀ l, H l = none → Q (.ref l) (upd H l (.tup ys))) ∨ (SqT K H p ys ∧ Q (.ref p) H))) (tCons (tVar 5) tNil)) tNil))))
    (tDrop (tBM K "list" rAppend (tOp (rIxL K) (tVar 2) (tUn (rU fun i => .int (-i)) (tC (.int 1)))) (tCons (tD K (0 + (0 + 0) + 0) (mCall spPart (mCons (mVar 4) (mCons (mVar 3) mNil)))) tNil))))
theorem rd_test {K : PySem.W.Frag} {W : Wd} {B : Nat} {G0 H0 G6 H6 : Hp} {l a : Addr} {x : D} {n : Int} {wd : Str} {ws : List Str} {st : List (Addr × List D)} {top : List D} {σ : L2.St} {T2 : TS} {Dn : Ends} (hs : σ[2]? = some (some (.ref l)))
    (S : Sx K W B G0 H0 G6 H6 (rdEnv x (.d (.int n)) (.d (.str wd))) σ l (st ++ [(a, top)])) (run : Runs x (wd :: ws) (st.map (·.2)) top)
    (key : ∀ G7 H7, Same G6 G7 → Sx K W B G0 H0 G7 H7 (rdEnv x (.d (.int n)) (.d (.str wd))) σ l (st ++ [(a, top)]) → T2 Dn σ H7) : tSeq (tRdTest K) T2 Dn σ H6 := by
  obtain ⟨o1, o2⟩ := runs_head run
  refine ⟨_, hs, l, _, rfl, .inl (SqL.of S.hl), .int _, .int 1, .int _, .int _, rfl, rfl, _, rfl, ?_⟩
  by_cases hst : st = []
  · subst hst
    have ht : top = [] := o1.resolve_left fun z => z rfl
    have hw2 : wd ≠ ")" := o2.resolve_left fun z => z rfl
    subst ht
    refine iteT ?_
    refine ⟨_, hs, l, _, 0, .ref a, rfl, rfl, SqL.of S.hl, at0 _ _, Nat.zero_le _, fun p' hp' => ?_⟩
    have S4 := S.grow (Grow.hid (o := .lst []) S.rel.pub hp')
    obtain ⟨vs', e1, e2⟩ := (S4.own (a, []) (by simp)).ex
    cases e2
    refine ⟨.list [], .list [], .lst (SqL.of e1) .nil, .lst (SqL.of upd_same) .nil, rfl, rfl, _, rfl, ?_⟩
    refine iteF ?_
    refine ⟨W, B, G6, _, G6, _, fun b e => b = false ∧ e = rdEnv x (.d (.int n)) (.d (.str wd)), S4.base, ⟨decide_eq_false hw2, rfl⟩, fun b e G8 H8 p8 s8 R8 => ?_⟩
    obtain ⟨rfl, rfl⟩ := p8
    exact iteF (key _ _ s8 (S4.via R8 no_rdd))
  · have hl2 : 2 ≤ ((st ++ [(a, top)]).map fun p => V.ref p.1).length := by
      rw [List.length_map, List.length_append, List.length_singleton]
      have := List.length_pos_iff.mpr hst
      omega
    have e : PyData.eqv (.int (((st ++ [(a, top)]).map fun p => V.ref p.1).length : Int)) (.int 1) = false := by
      show ((((st ++ [(a, top)]).map fun p => V.ref p.1).length : Int) == 1) = false
      exact beq_eq_false_iff_ne.mpr (by omega)
    rw [e]
    exact iteF (iteF (key _ _ (Same.refl _) S))
theorem rd_step {K : PySem.W.Frag} {W : Wd} {B : Nat} {G0 H0 G4 G6 H6 : Hp} {l a : Addr} {x : D} {i : Nat} {wd : Str} {st : List (Addr × List D)} {top : List D} {σ : L2.St} {Dn : Ends} (hi : i < 900000) (hd : (wds x).drop i = wd :: (wds x).drop (i + 1)) (s6 : Same G4 G6) (hs : σ[2]? = some (some (.ref l)))
    (S0 : Sx K W B G0 H0 G6 H6 (rdEnv x (.d (.int i)) (.d (.str wd))) σ l (st ++ [(a, top)])) (run : Runs x (wd :: (wds x).drop (i + 1)) (st.map (·.2)) top) (b1 : st.length ≤ i) (b2 : ∀ q ∈ st ++ [(a, top)], q.2.length ≤ i)
    (nx : ∀ σ H, St67 K W B G0 H0 G4 l x (i + 1) σ H → Dn.nx σ H) : tRdStep K Dn σ H6 := by
  have big := big_size
  have nun : ∀ (y : D) (xs : List D), EV.d y ≠ EV.own xs := fun _ _ z => by cases z
  refine ⟨W, B, G6, H6, G6, _, fun b e => b = decide (wd = "(") ∧ e = rdEnv x (.d (.int i)) (.d (.str wd)), S0.base, ⟨rfl, rfl⟩, fun b e G8 H8 p8 s8 R8 => ?_⟩
  obtain ⟨rfl, rfl⟩ := p8
  have S8 := S0.via R8 no_rdd
  have s48 : Same G4 G8 := s6.trans s8
  clear S0 R8 s6 s8
  generalize hrest : st.map (·.2) = rest at run
  cases run with
  | opn o r =>
    rw [decide_eq_true rfl]
    refine iteT ⟨_, hs, .inl ⟨rfl, _, SqL.of S8.hl⟩, Nat.zero_le _, fun p hp => ?_⟩
    have pl : l ≠ p := fun z => by
      subst z
      rw [S8.hl] at hp
      cases hp
    refine ⟨l, _, _, rfl, rfl, (upd_ne pl).trans S8.hl, ?_, nx _ _ ⟨G8, _, _, st ++ [(a, top)], p, [], s48, nun _, nun _, hs, S8.push hp, ?_, ?_, ?_⟩⟩
    · rw [List.length_map, List.length_append, List.length_singleton]
      omega
    · rw [List.map_append, hrest]
      exact r
    · rw [List.length_append, List.length_singleton]
      omega
    · intro q hq
      rcases List.mem_append.mp hq with hq | hq
      · have := b2 q hq
        omega
      · have e : q = (p, []) := by simpa using hq
        subst e
        exact Nat.zero_le _
  | shut r =>
    rename_i rest' top'
    obtain ⟨st', b', rfl, hst'⟩ : ∃ st' b', st = st' ++ [(b', top')] ∧ st'.map (·.2) = rest' := by
      obtain ⟨s1, s2, e1, e2, e3⟩ := List.map_eq_append_iff.mp hrest
      obtain ⟨q, s3, rfl, e4, e5⟩ := List.map_eq_cons_iff.mp e3
      have e6 := List.map_eq_nil_iff.mp e5
      subst e6
      obtain ⟨b', t'⟩ := q
      have e4 : t' = top' := e4
      subst e4
      exact ⟨s1, b', e1, e2⟩
    rw [decide_eq_false (show ¬ ((")" : Str) = "(") by decide +kernel)]
    refine iteF ?_
    refine ⟨W, B, G8, H8, G8, _, fun b e => b = true ∧ e = rdEnv x (.d (.int i)) (.d (.str ")")), S8.base, ⟨decide_eq_true rfl, rfl⟩, fun b e G9 H9 p9 s9 R9 => ?_⟩
    obtain ⟨rfl, rfl⟩ := p9
    have S9 := S8.via R9 no_rdd
    refine iteT ?_
    obtain ⟨Sp, ow⟩ := S9.pop
    refine ⟨_, hs, .inl ⟨rfl, _, SqL.of S9.hl⟩, l, _, .ref a, rfl, rfl, S9.hl, ?_, ?_⟩
    · rw [List.map_append]
      simp
    have edl : ((st' ++ [(b', top')] ++ [(a, top)]).map fun p => V.ref p.1).dropLast = (st' ++ [(b', top')]).map fun p => V.ref p.1 := by
      rw [List.map_append]
      exact List.dropLast_concat
    rw [edl]
    have S5 := Sp.set_un (i := 5) (s := some (.ref a)) no_rdd
    generalize upd H9 l (.lst ((st' ++ [(b', top')]).map fun p => V.ref p.1)) = Hp1 at Sp ow S5 ⊢
    obtain ⟨va, ea, da⟩ := ow.ex
    have l5 : 5 < σ.length := by
      rw [← S9.rel.len]
      show 5 < 8
      decide
    have hs5 : (σ.set 5 (some (.ref a)))[2]? = some (some (.ref l)) := by
      rw [List.getElem?_set_ne (by decide)]
      exact hs
    obtain ⟨vb, eb, db⟩ := (S5.own (b', top') (by simp)).ex
    refine ⟨_, hs5, 1, rfl, l, _, -1, .ref b', rfl, rfl, SqL.of S5.hl, ?_, .inl ⟨rfl, _, SqL.of eb⟩, _, List.getElem?_set_self l5, a, va, rfl, .inl ⟨SqL.of ea, fun t ht => ?_⟩⟩
    · rw [List.map_append]
      exact at_last _ _
    have gt := S5.rel.pub.free ht
    have S10 := S5.grow (Grow.new1 (o := .tup va) S5.rel.pub ht)
    have sg : Same G9 (upd G9 t (.tup va)) := same_upd gt
    have tb : b' ≠ t := fun z => by
      subst z
      rw [ht] at eb
      cases eb
    refine ⟨b', vb, _, rfl, rfl, (upd_ne tb).trans eb, ?_, nx _ _ ⟨upd G9 t (.tup va), _, _, st', b', top' ++ [.tuple top], (s48.trans s9).trans sg, nun _, nun _, hs5, S10.put ((upd_ne tb).trans eb) (dpAll_same sg db) (.tup (SqT.of upd_same) (dpAll_same sg da)), ?_, ?_, ?_⟩⟩
    · have := b2 (b', top') (by simp)
      rw [dpAll_len db]
      omega
    · rw [hst']
      exact r
    · rw [List.length_append, List.length_singleton] at b1
      omega
    · intro q hq
      rcases List.mem_append.mp hq with hq | hq
      · have := b2 q (by simp [hq])
        omega
      · have e : q = (b', top' ++ [.tuple top]) := by simpa using hq
        subst e
        have h7 : top'.length ≤ i := b2 (b', top') (by simp)
        show (top' ++ [PyData.tuple top]).length ≤ i + 1
        rw [List.length_append, List.length_singleton]
        omega
  | part o hA r =>
    rename_i y
    rw [decide_eq_false (atom_ne hA).1]
    refine iteF ?_
    refine ⟨W, B, G8, H8, G8, _, fun b e => b = false ∧ e = rdEnv x (.d (.int i)) (.d (.str wd)), S8.base, ⟨decide_eq_false (atom_ne hA).2, rfl⟩, fun b e G9 H9 p9 s9 R9 => ?_⟩
    obtain ⟨rfl, rfl⟩ := p9
    have S9 := S8.via R9 no_rdd
    refine iteF ?_
    obtain ⟨va, ea, da⟩ := (S9.own (a, top) (by simp)).ex
    refine ⟨_, hs, 1, rfl, l, _, -1, .ref a, rfl, rfl, SqL.of S9.hl, ?_, .inl ⟨rfl, _, SqL.of ea⟩, ?_⟩
    · rw [List.map_append]
      exact at_last _ _
    refine ⟨W, B, G9, H9, G9, _, fun z e => z = y ∧ e = rdEnv x (.d (.int i)) (.d (.str wd)), S9.base, ⟨wd, y, i, rfl, hA, rfl, rfl⟩, fun z e v G10 H10 p10 s10 R10 d10 => ?_⟩
    obtain ⟨rfl, rfl⟩ := p10
    have S10 := S9.via R10 no_rdd
    obtain ⟨vb, eb, db⟩ := (S10.own (a, top) (by simp)).ex
    refine ⟨a, vb, v, rfl, rfl, eb, ?_, nx _ _ ⟨G10, _, _, st, a, top ++ [z], (s48.trans s9).trans s10, nun _, nun _, hs, S10.put eb db d10, ?_, by omega, ?_⟩⟩
    · have := b2 (a, top) (by simp)
      rw [dpAll_len db]
      omega
    · rw [hrest]
      exact r
    · intro q hq
      rcases List.mem_append.mp hq with hq | hq
      · have := b2 q (by simp [hq])
        omega
      · have e : q = (a, top ++ [z]) := by simpa using hq
        subst e
        have h7 : top.length ≤ i := b2 (a, top) (by simp)
        show (top ++ [z]).length ≤ i + 1
        rw [List.length_append, List.length_singleton]
        omega
section
variable {P : Program} {w : World} {K : PySem.W.Frag} {mg : Str → Option Value} {base : Heap} {f : Addr} {fd : FuncData}
theorem ok_read (T : Tb K mg) (c_part_in : Cal P w K mg base "part_in" 2 ["word", "at"] 0 spPart) (F : Fun K "read_thing" "read_thing" s_read_thing f fd) : FnG P w K mg base CX0 3 f fd ["text"] (spD K 0 spRead) := by
  have nd := sc_read_thing.nd
  refine Fun.okG (k := 2) F sc_read_thing (fun vs H Q E h => ?_) (fun cdv A fs s H vs Q E hr h => ?_)
  · obtain ⟨W, B, G, as, Pd, r, a, ⟨x, rfl, _⟩, _⟩ := h
    exact args_len a
  · obtain ⟨W, B, G, as, Pd, r, a, ⟨x, rfl, hg, hl, hP⟩, q⟩ := h
    have hu := hr.rm.units
    have hgd := hr.gd
    refine ⟨_, PSs.nox (pss_cons (gs_if (gt_not (gt_val (ge_isi kit_str (by rfl) T.n_isinstance (by rfl) T.n_str (by decide +kernel) (ge_var 0)))) (gss_one gs_never) gss_nil)
      (pss_cons (gs_set (i := 1) nd rfl (.inl rfl) (ge_bm PySem.F.plainAttrs_str PySem.F.slot_str_split PySem.F.type_str_split md_split (ge_var 0) (ga_cons ge_str ga_nil)))
      (pss_cons (ps_set (i := 2) nd rfl (.inl rfl) (pe_lst (pa_cons (pe_lst pa_nil) pa_nil)))
      (pss_cons (ps_for PassesOwn.never rfl (gi_enum (by rfl) T.n_enumerate (ga_cons (ge_var 1) ga_nil)) (gg_tup (vs := [3, 4]) rfl (ggs_cons (i := 3) nd rfl (.inl rfl) (by decide) (ggs_cons (i := 4) nd rfl (.inl rfl) (by decide) ggs_nil)))
        (pss_cons (ps_if (PW.pt (pw_and (pt_cmpR (op_eqD hu) (pe_callB call_len_seq (by rfl) T.n_len PySem.boot_len (pa_cons (pv 2) pa_nil)) pe_int (nomark _))
            (pw_and1 (PW.pt (pw_or (pt_cmpR (op_neD hu) (pe_ix ix_list (pv 2) pe_int (fun _ _ => rfl)) (pe_lst pa_nil) (nomark _)) (pw_or1 (gt_cmp (od_eq hu) (ge_var 4) (ge_gl T.g_SHUT (by rfl)) (nomark _)))))))) (pss_one ps_never) pss_nil)
        (pss_one (ps_if (gt_cmp (od_eq hu) (ge_var 4) (ge_gl T.g_OPEN (by rfl)) (nomark _))
          (pss_one (ps_expr (pe_bm PySem.F.plainAttrs_list PySem.F.slot_list_append PySem.F.type_list_append mt_append (pv 2) (pa_cons (pe_lst pa_nil) pa_nil))))
          (pss_one (ps_if (gt_cmp (od_eq hu) (ge_var 4) (ge_gl T.g_SHUT (by rfl)) (nomark _))
            (pss_cons (ps_set (i := 5) nd rfl (.inl rfl) (pe_bm0 PySem.F.plainAttrs_list PySem.F.slot_list_pop PySem.F.type_list_pop mt_pop (pv 2)))
            (pss_one (ps_expr (pe_bm PySem.F.plainAttrs_list PySem.F.slot_list_append PySem.F.type_list_append mt_append (pe_ix ix_list (pv 2) (pe_un un_neg pe_int) (fun _ _ => rfl)) (pa_cons (pe_callTy call_tuple_of (by rfl) T.n_tuple (by decide +kernel) (pa_cons (pv 5) pa_nil)) pa_nil)))))
            (pss_one (ps_expr (pe_bm PySem.F.plainAttrs_list PySem.F.slot_list_append PySem.F.type_list_append mt_append (pe_ix ix_list (pv 2) (pe_un un_neg pe_int) (fun _ _ => rfl)) (pa_cons (ge_cal c_part_in (hr.mono (by decide)) (by rfl) (ga_cons (ge_var 4) (ga_cons (ge_var 3) ga_nil))) pa_nil))))))))))
      (pss_cons (ps_asg (pv 2) (pg_starL (n := 2) (i := 1) rfl (pgs_cons (pg_name (i := 6) nd rfl (.inl rfl)) (pgs_star (pg_name (i := 7) nd rfl (.inl rfl)) pgs_nil))))
      (pss_cons (ps_if (pt_cmpR (op_neD hu) (pv 7) (pe_lst pa_nil) (nomark _)) (pss_one ps_never) pss_nil)
      (pss_one (ps_ret (pe_ix ix_list (pv 6) pe_int (fun _ _ => rfl)))))))))), ?_⟩
    have R0 := rel_start N_read_thing r a
    have big : sizeLine = 16777216 := sizeLine_eq
    have jl := join_len (wds_ok x hg)
    refine ⟨W, B, G, H, G, _, { nx := fun e => e = env0 N_read_thing [.d (.str (Txt.join " " (wds x)))], rt := fun _ => False }, R0, by exact rfl, ?_, fun _ _ _ _ z => z.elim, fun _ _ _ _ z => z.elim, fun _ _ _ _ z => z.elim⟩
    intro e1 σ1 G1 H1 p1 s1 R1
    subst p1
    refine ⟨W, B, G, H, G1, _, { nx := fun e => e = rdEnv x .un .un, rt := fun _ => False }, R1, ⟨rfl, ⟨by decide +kernel, by omega⟩, ?_⟩, ?_, fun _ _ _ _ z => z.elim, fun _ _ _ _ z => z.elim, fun _ _ _ _ z => z.elim⟩
    · rw [split_wds hg]
      rfl
    intro e2 σ2 G2 H2 p2 s2 R2
    subst p2
    refine ⟨Nat.zero_le _, fun p hp => ⟨(show (1 : Nat) ≤ sizeLine by decide), fun l hl2 => ?_⟩⟩
    -- the stack stands
    obtain ⟨R3, f1, f2, f3, _⟩ := R2.fresh (o := .lst []) hp
    obtain ⟨R4, g1, g2, g3, _⟩ := R3.fresh (o := .lst [.ref p]) hl2
    have pl : p ≠ l := fun z => by
      subst z
      rw [upd_same] at hl2
      cases hl2
    have l2 : 2 < σ2.length := by
      rw [← R2.len]
      show 2 < 8
      decide
    have no1 : NoOwn (rdEnv x .un .un) := no_rd (fun _ z => by cases z) (fun _ z => by cases z)
    have S0 : Sx K W B G H G2 (upd (upd H2 p (.lst [])) l (.lst [.ref p])) (rdEnv x .un .un) (σ2.set 2 (some (.ref l))) l ([] ++ [(p, [])]) := by
      refine ⟨R4.set_un (i := 2) no1, no1, upd_same, g1, g2, g3, ?_, fun q hq => ?_⟩
      · exact List.nodup_cons.mpr ⟨fun z => pl (show l = p by simpa using z).symm, by simp⟩
      · have e : q = (p, []) := by simpa using hq
        subst e
        refine ⟨⟨[], ?_, .nil⟩, f1, f2, f3⟩
        show upd (upd H2 p (.lst [])) l _ p = _
        rw [upd_ne pl, upd_same]
    have hs0 : (σ2.set 2 (some (.ref l)))[2]? = some (some (.ref l)) := List.getElem?_set_self l2
    generalize (upd (upd H2 p (.lst [])) l (.lst [.ref p])) = H3 at S0 ⊢
    have nun : ∀ xs : List D, EV.un ≠ EV.own xs := fun _ z => by cases z
    refine ⟨W, B, G2, H3, G2, rdEnv x .un .un, fun ds e => ds = pairs ((wds x).map .str) ∧ e = rdEnv x .un .un, S0.base, ⟨rfl, rfl⟩, fun ds e4 J G4 H4 p4 s4 R4 it => ?_⟩
    obtain ⟨rfl, rfl⟩ := p4
    have S1 := S0.via R4 no1
    have nl : (pairs ((wds x).map .str)).length = (wds x).length := by
      unfold pairs
      rw [List.length_mapIdx, List.length_map]
    refine ⟨fun i m σ' H' => m = (wds x).length - i ∧ i ≤ (wds x).length ∧ St67 K W B G H G4 l x i σ' H', ⟨_, rfl, Nat.zero_le _, G4, .un, .un, [], p, [], Same.refl _, nun, nun, hs0, S1, runs_whole hg, Nat.le_refl _, fun q hq => ?_⟩, ?_⟩
    · have e : q = (p, []) := by simpa using hq
      subst e
      exact Nat.le_refl _
    rintro i m σ' H' ⟨rfl, hi, st0⟩
    by_cases hlt : i < (wds x).length
    · obtain ⟨G5, o3, o4, st, a1, top, s5, n3, n4, hs2, S, run, b1, b2⟩ := st0
      obtain ⟨wd, hw⟩ : ∃ wd, (wds x)[i]? = some wd := ⟨_, List.getElem?_eq_getElem hlt⟩
      have hd : (wds x).drop i = wd :: (wds x).drop (i + 1) := by
        rw [List.drop_eq_getElem_cons hlt]
        rw [List.getElem?_eq_getElem hlt] at hw
        cases hw
        rfl
      have hx : (pairs ((wds x).map .str))[i]? = some (.tuple [.int (i : Int), .str wd]) := by
        unfold pairs
        rw [List.getElem?_mapIdx, List.getElem?_map, hw]
        rfl
      obtain ⟨hgo, hy⟩ := (it G5 H' s5 S.rel.pub i).1 _ hx
      rw [hd] at run
      refine .inr ⟨hgo, fun σ6 H6 => St67 K W B G H G4 l x (i + 1) σ6 H6, fun σ6 H6 hN => ⟨_, by omega, rfl, hlt, hN⟩, fun v H6 y => ?_⟩
      obtain ⟨G6, g6, d6⟩ := hy v H6 y
      have S2 := S.grow g6
      have s6 : Same G4 G6 := s5.trans g6.eg
      refine ⟨W, B, G6, H6, G6, rdEnv x o3 o4, .tuple [.int (i : Int), .str wd], fun e => e = rdEnv x (.d (.int i)) (.d (.str wd)), S2.base, d6, ⟨rfl, rfl, rfl⟩, fun e7 σ7 p7 R7 w7 _ => ?_⟩
      subst p7
      have hs7 : σ7[2]? = some (some (.ref l)) := by
        rw [← wipe_out' (σ := σ7) (vs := [3, 4]) (by decide), w7, wipe_out' (by decide)]
        exact hs2
      have S3 := S2.via R7 no_rdd
      refine rd_test hs7 S3 run fun G7 H7 s7 S7 => ?_
      exact rd_step (by omega) hd (s6.trans s7) hs7 S7 run b1 b2 fun σ8 H8 h8 => h8
    · have e : i = (wds x).length := by omega
      subst e
      refine .inl ⟨(it _ H' (Same.refl _) ?_ _).2 (Nat.le_of_eq nl), ?_⟩
      · obtain ⟨G5, o3, o4, st, a1, top, s5, n3, n4, hs2, S, run, b1, b2⟩ := st0
        exact s5.trans S.rel.pub
      obtain ⟨G5, o3, o4, st, a1, top, s5, n3, n4, hs2, S, run, b1, b2⟩ := st0
      rw [List.drop_length] at run
      generalize hrest : st.map (·.2) = rest at run
      cases run
      have est := List.map_eq_nil_iff.mp hrest
      subst est
      have l7 : 7 < σ'.length := by
        rw [← S.rel.len]
        show 7 < 8
        decide
      refine ⟨_, hs2, l, [.ref a1], rfl, SqL.of S.hl, (show (1 : Nat) < 2 by decide), (show (2 : Nat) ≤ 1 + 1 by decide), (show (1 : Nat) ≤ 16384 by decide), fun p9 hp9 => ?_⟩
      refine ⟨_, _, rfl, _, _, rfl, rfl, ?_⟩
      have S5 := S.grow (Grow.hid (o := .lst []) S.rel.pub hp9)
      refine ⟨_, List.getElem?_set_self (by rw [List.length_set]; exact l7), Nat.zero_le _, fun p10 hp10 => ?_⟩
      have S6 := S5.grow (Grow.hid (o := .lst []) S5.rel.pub hp10)
      have q9 : upd (upd H' p9 (.lst [])) p10 (.lst []) p9 = some (.lst []) := by
        have ne : p9 ≠ p10 := fun z => by
          subst z
          rw [upd_same] at hp10
          cases hp10
        rw [upd_ne ne, upd_same]
      refine ⟨.list [], .list [], .lst (SqL.of q9) .nil, .lst (SqL.of upd_same) .nil, rfl, rfl, _, rfl, ?_⟩
      refine iteF ?_
      obtain ⟨va, ea, da⟩ := (S6.own (a1, [x]) (by simp)).ex
      cases da with
      | cons dx dr =>
        cases dr
        refine ⟨_, ?_, a1, _, 0, _, rfl, rfl, SqL.of ea, at0 _ _, q _ _ _ _ hP S6.rel.toRW dx⟩
        rw [List.getElem?_set_ne (by decide), List.getElem?_set_self (by omega)]
end
end L67
namespace L67
open PySem PySem.Spec PyProof.Rows L2 DL
theorem ct_big {n : Nat} (h : n ≤ 2 ^ 64) : n ≤ ctMax := by
  have e : ctMax = 2 ^ 100000 := by unfold ctMax; rfl
  rw [e]
  exact Nat.le_trans h (Nat.pow_le_pow_right (by decide) (by decide))
/-- a thing that the law asks -/
def Okt (y : D) : Prop := good y = true ∧ y.depth ≤ 40 ∧ (wds y).length ≤ 1000
theorem okt_repr {y : D} (h : Okt y) : (y.showable = true ∧ noDict y = true) ∧ y.depth ≤ 60 ∧ y.shown.length ≤ sizeLine := by
  obtain ⟨h1, h2, h3⟩ := h
  obtain ⟨a1, a2, a3, a4⟩ := good_show y h1
  have hs := PyData.shown_le 50 (by decide) y a3
  refine ⟨⟨a1, a2⟩, by omega, ?_⟩
  rw [sizeLine_eq]
  omega
def lawBody : MS := sSeq (sSet 7 (mCB dReprA (mCons (mVar 6) mNil))) (sSeq (sSet 8 (mBMt "str" fJoin (mC (.str " ")) (mCons (mCall (spW 42) (mCons (mVar 6) mNil)) mNil))) (sSeq (sSet 9 (mCall spRead (mCons (mVar 8) mNil)))
  (sSeq (sIf (mOrT (mCmpT cNe (mCall (spShow 42) (mCons (mVar 6) mNil)) (mVar 8)) (mOrT (mCmpT cNe (mCB dReprA (mCons (mVar 9) mNil)) (mVar 7)) (mOrT (mCmpT cNe (mCall (spShow 42) (mCons (mVar 9) mNil)) (mVar 8)) (mCmpT cNe (mCB dReprA (mCons (mVar 6) mNil)) (mVar 7))))) (sRet (mC (.bool false))) sNext)
    (sIf (mCmpT cNe (mCB dReprA (mCons (mCall spRead (mCons (mVar 8) mNil)) mNil)) (mVar 7)) (sRet (mC (.bool false))) sNext))))
def lawRest (nb : Nat) : MS := sSeq (sForC nb 0 (miSeq (mOp dAdd (mVar 3) (mUn dRevL (mVar 3)))) (gNm 6) lawBody) (sRet (mC (.bool true)))
theorem law_body {y : D} (h : Okt y) {E : DEnds} {e0 e1 e2 e3 e4 e5 e7 e8 e9 : EV} (nx : ∀ a b c, E.nx [e0, e1, e2, e3, e4, e5, .d y, a, b, c]) : lawBody E [e0, e1, e2, e3, e4, e5, .d y, e7, e8, e9] := by
  obtain ⟨h1, h2, h3⟩ := h
  have hl := sum_len (wds_ok y h1)
  obtain ⟨k1, k2, k3⟩ := okt_repr ⟨h1, h2, h3⟩
  refine ⟨k1, k2, k3, ?_⟩
  refine ⟨rfl, y, rfl, h1, by omega, by omega, ?_⟩
  show match strsD ((wds y).map PyData.str) with | some ys => _ | none => _
  rw [strs_map]
  refine ⟨?_, ?_⟩
  · show _ + (wds y).length * 1 ≤ 16777216
    omega
  refine ⟨y, rfl, h1, by omega, ?_⟩
  refine ⟨y, rfl, h1, by omega, by omega, ?_⟩
  show match !decide (Txt.join " " (wds y) = Txt.join " " (wds y)) with | true => _ | false => _
  rw [decide_eq_true rfl]
  refine ⟨k1, k2, k3, ?_⟩
  show match !decide (y.shown = y.shown) with | true => _ | false => _
  rw [decide_eq_true rfl]
  refine ⟨y, rfl, h1, by omega, by omega, ?_⟩
  show match !decide (Txt.join " " (wds y) = Txt.join " " (wds y)) with | true => _ | false => _
  rw [decide_eq_true rfl]
  refine ⟨k1, k2, k3, ?_⟩
  show match !decide (y.shown = y.shown) with | true => _ | false => _
  rw [decide_eq_true rfl]
  refine ⟨y, rfl, h1, by omega, ?_⟩
  refine ⟨k1, k2, k3, ?_⟩
  show match !decide (y.shown = y.shown) with | true => _ | false => _
  rw [decide_eq_true rfl]
  exact nx _ _ _
theorem law_rest {nb : Nat} (hb : nb = 0) {xs : List D} (hx : ∀ y ∈ xs, Okt y) (hl : xs.length ≤ 1000) {N : DEnv → Prop} {e0 e1 e2 e4 e5 e6 e7 e8 e9 : EV} : lawRest nb { nx := N, rt := fun x => x = .bool true } [e0, e1, e2, .own xs, e4, e5, e6, e7, e8, e9] := by
  subst hb
  have big := big_size
  refine ⟨?_, Nat.le_of_eq (Nat.mul_zero _), ?_⟩
  · rw [List.length_reverse]
    omega
  refine forl_inv (fun i env => ∃ e0 e1 e2 e3 e4 e5 e6 e7 e8 e9, env = [e0, e1, e2, e3, e4, e5, e6, e7, e8, e9]) ⟨_, _, _, _, _, _, _, _, _, _, rfl⟩ (fun i y env E' hy hI nx _ _ _ => ?_) fun env hI => ?_
  · obtain ⟨e0, e1, e2, e3, e4, e5, e6, e7, e8, e9, rfl⟩ := hI
    have hm : y ∈ xs := by
      rcases List.mem_append.mp (List.mem_of_getElem? hy) with z | z
      · exact z
      · exact List.mem_reverse.mp z
    exact law_body (hx y hm) fun a b c => nx _ ⟨_, _, _, _, _, _, _, _, _, _, rfl⟩
  · obtain ⟨e0, e1, e2, e3, e4, e5, e6, e7, e8, e9, rfl⟩ := hI
    rfl
def fiveD : List D := [.tuple [], .none, .int 0, .tuple [.tuple []], .str "x"]
theorem five_ok : ∀ y ∈ fiveD, Okt y := by
  intro y hy
  simp only [fiveD, List.mem_cons, List.not_mem_nil, or_false] at hy
  rcases hy with rfl | rfl | rfl | rfl | rfl
  · exact ⟨rfl, by decide, by decide +kernel⟩
  · exact ⟨rfl, by decide, by decide +kernel⟩
  · exact ⟨by decide +kernel, by decide, by decide +kernel⟩
  · exact ⟨rfl, by decide, by decide +kernel⟩
  · exact ⟨by decide +kernel, by decide, by decide +kernel⟩
theorem rangeD_get {lo : Int} {n i : Nat} {x : D} (h : (rangeD lo n)[i]? = some x) : x = .int (lo + (i : Int)) := by
  simp only [rangeD, List.getElem?_map, Option.map_eq_some_iff] at h
  obtain ⟨j, hj, rfl⟩ := h
  obtain ⟨h1, h2⟩ := List.getElem?_eq_some_iff.mp hj
  rw [List.getElem_range] at h2
  rw [h2]
section
variable {P : Program} {w : World} {K : PySem.W.Frag} {mg : Str → Option Value} {base : Heap} {f : Addr} {fd : FuncData}
def spLaw (K : PySem.W.Frag) : Sp := fun vs H Q _ => ∃ (a : Addr) (ns : List Int), vs = [.ref a] ∧ SqL K H a (ns.map V.int) ∧ ns.length ≤ 63 ∧ (∀ z ∈ ns, Builtin.Int.intBits z ≤ 1048576) ∧ ∀ H', Q (.bl true) H'
theorem rel_deck {K : PySem.W.Frag} {dk c a : Addr} {H : Hp} {n m : Nat} (inv : deckInv dk c ctMax H) (hn : n ≤ ctMax) : Rel K (some (dk, c)) n (fun _ => none) (fun _ => none) (fun _ => none) (.un :: .hd :: List.replicate m .un) (some (.ref a) :: some (.ref dk) :: List.replicate m none) H where
  g0 := Same.refl _
  pub := fun _ _ h => (nomatch h)
  gm := fun _ _ => rfl
  inv := Wd.low (some (dk, c)) ctMax n H hn inv
  fr := fun _ _ h => (nomatch h)
  pn := fun _ _ h => (nomatch h)
  len := by simp
  slot := fun i e s h1 h2 => by
    match i, h1, h2 with
    | 0, h1, h2 => cases h1; trivial
    | 1, h1, h2 =>
      cases h1
      cases h2
      exact ⟨rfl, fun z => (nomatch z)⟩
    | i + 2, h1, h2 =>
      obtain ⟨h3, h4⟩ := List.getElem?_eq_some_iff.mp (show (List.replicate m EV.un)[i]? = some e from h1)
      rw [List.getElem_replicate] at h4
      subst h4
      trivial
  dis := fun i j xi xj l ne h1 => by
    match i, h1 with
    | 0, h1 => cases h1
    | 1, h1 => cases h1
    | i + 2, h1 =>
      obtain ⟨h3, h4⟩ := List.getElem?_eq_some_iff.mp (show (List.replicate m EV.un)[i]? = some (.own xi) from h1)
      rw [List.getElem_replicate] at h4
      cases h4
theorem ok_law (T : Tb K mg) {fD : Addr} {fdD : FuncData} (FD : FnG P w K mg base CX0 1 fD fdD ["_law_script"] (spDeck K)) (gD : mg "_law_deck" = some (.ref fD)) (kD : PySem.W.keepIn K (.ref fD) = true) (bD : Binds K fdD ["_law_script"] [])
    (c_law_draw : Cal P w K mg base "_law_draw" 1 ["_law_deck_here", "_law_sides"] 1 spDraw) (c_law_thing : Cal P w K mg base "_law_thing" 5 ["_law_deck_here", "_law_deep"] (cT 4) (spT 4)) (c_law_words_of : Cal P w K mg base "_law_words_of" 42 ["_law_one"] 0 (spW 42))
    (c_show_thing : Cal P w K mg base "show_thing" 43 ["thing"] 0 (spShow 42)) (c_show_thingK : CalK P w K mg base "show_thing" 43 ["thing"] 0 (spShow 42)) (c_read_thing : Cal P w K mg base "read_thing" 3 ["text"] 0 spRead) (c_read_thingK : CalK P w K mg base "read_thing" 3 ["text"] 0 spRead)
    (F : Fun K "law" "law" s_law f fd) : FnG P w K mg base CX0 44 f fd ["_law_script"] (spLaw K) := by
  have nd := sc_law.nd
  refine Fun.okG (k := 43) F sc_law (fun vs H Q E h => by obtain ⟨a, ns, rfl, _⟩ := h; rfl) (fun cdv A fs s H vs Q E hr h => ?_)
  obtain ⟨a, ns, rfl, hS, hl, hb, hQ⟩ := h
  have hu := hr.rm.units
  have hgd := hr.gd
  refine ⟨_, PSs.nox (pss_cons (ps_set (i := 1) nd rfl (.inr rfl) (pe_callG FD (hr.mono (by decide)) (by rfl) gD kD bD .nil pass0 (pa_cons (pv 0) pa_nil))) ((gss_cons (gs_set (i := 2) nd rfl (.inl rfl) (ge_cmp (od_eq hu) (ge_cal c_law_draw (hr.mono (by first | decide | omega)) (by rfl) (ga_hd 1 (ga_cons ge_int ga_nil))) ge_int (nomark _)))
      (gss_cons (gs_setF (i := 3) nd rfl (.inl rfl) (gf_add (ge_pub (gf_lc (12 * cT 4) rfl nd (gi_range1 (by rfl) T.n_range (ga_cons ge_int ga_nil)) (blkOk_by (own := [("_law_k", 5)]) (N := N_law) (sc := defScope s_law) (by decide +kernel)) (fun _ _ _ _ _ => (gg_name (i := 5) (vs := (List.map (·.2) ([("_law_k", 5)] : List (Str × Nat)))) nd rfl (.inl rfl) (by decide))) (fun _ _ _ _ _ => gts_nil) (fun _ _ _ _ _ => (ge_cal c_law_thing (hr.mono (by first | decide | omega)) (by rfl) (ga_hd 1 (ga_cons ge_int ga_nil)))))) (ge_lst (ga_cons (ge_tup ga_nil) (ga_cons ge_non (ga_cons ge_int (ga_cons (ge_tup (ga_cons (ge_tup ga_nil) ga_nil)) (ga_cons ge_str ga_nil))))))))
      (gss_cons (gs_if (gt_val (ge_var 2)) (gss_cons (gs_set (i := 4) nd rfl (.inl rfl) (ge_cal c_law_thing (hr.mono (by first | decide | omega)) (by rfl) (ga_hd 1 (ga_cons ge_int ga_nil))))
      (gss_cons (gs_forC 29 PassesOwn.never rfl (gi_range1 (by rfl) T.n_range (ga_cons ge_int ga_nil)) (gg_name (i := 5) (vs := [5]) nd rfl (.inl rfl) (by decide)) (gss_one (gs_set (i := 4) nd rfl (.inl rfl) (ge_op od_add (ge_tup (ga_cons (ge_var 4) ga_nil)) (ge_op od_mulT (ge_tup (ga_cons (ge_var 5) ga_nil)) (ge_cal c_law_draw (hr.mono (by first | decide | omega)) (by rfl) (ga_hd 1 (ga_cons ge_int ga_nil))))))))
      (gss_one (gs_append (i := 3) rfl (.inl rfl) (ge_var 4))))) gss_nil)
      (gss_cons (gs_forC 0 PassesOwn.never rfl (gi_list (ge_op od_add (ge_var 3) (ge_revL (ge_var 3)))) (gg_name (i := 6) (vs := [6]) nd rfl (.inl rfl) (by decide)) (gss_cons (gs_set (i := 7) nd rfl (.inl rfl) (ge_callB (cd_reprA hgd hu) (by rfl) T.n_repr boot_repr (ga_cons (ge_var 6) ga_nil)))
      (gss_cons (gs_set (i := 8) nd rfl (.inl rfl) (ge_bm PySem.F.plainAttrs_str PySem.F.slot_str_join PySem.F.type_str_join md_join ge_str (ga_cons (ge_cal c_law_words_of (hr.mono (by first | decide | omega)) (by rfl) (ga_cons (ge_var 6) ga_nil)) ga_nil)))
      (gss_cons (gs_set (i := 9) nd rfl (.inl rfl) (ge_cal c_read_thing (hr.mono (by first | decide | omega)) (by rfl) (ga_cons (ge_var 8) ga_nil)))
      (gss_cons (gs_if (PW.pt (gt_or (gt_cmp (od_ne hu) (ge_cal c_show_thing (hr.mono (by first | decide | omega)) (by rfl) (ga_cons (ge_var 6) ga_nil)) (ge_var 8) (nomark _)) (gt_or (gt_cmp (od_ne hu) (ge_callB (cd_reprA hgd hu) (by rfl) T.n_repr boot_repr (ga_cons (ge_var 9) ga_nil)) (ge_var 7) (nomark _)) (gt_or (gt_cmp (od_ne hu) (ge_calK c_show_thingK (hr.mono (by first | decide | omega)) (by rfl) (gk_cons (ge_var 9) gk_nil)) (ge_var 8) (nomark _)) (pw_or1 (gt_cmp (od_ne hu) (ge_callB (cd_reprA hgd hu) (by rfl) T.n_repr boot_repr (ga_cons (ge_var 6) ga_nil)) (ge_var 7) (nomark _))))))) (gss_one (gs_ret ge_bl)) gss_nil)
      (gss_one (gs_if (gt_cmp (od_ne hu) (ge_callB (cd_reprA hgd hu) (by rfl) T.n_repr boot_repr (ga_cons (ge_calK c_read_thingK (hr.mono (by first | decide | omega)) (by rfl) (gk_cons (ge_var 8) gk_nil)) ga_nil)) (ge_var 7) (nomark _)) (gss_one (gs_ret ge_bl)) gss_nil)))))))
      (gss_one (gs_ret ge_bl)))))))), ?_⟩
  refine ⟨_, rfl, a, ns, rfl, hS, hl, hb, fun H' dk c sm n1 n2 inv => ?_⟩
  refine ⟨some (dk, c), 0, _, _, _, _, { nx := fun _ => False, rt := fun x => x = .bool true }, rel_deck (m := 8) inv (ct_big (by decide)), ?_, fun _ _ _ _ z => z.elim, fun x v G' H'' z _ _ d => ?_, fun _ _ _ _ z => z.elim, fun _ _ _ _ z => z.elim⟩
  · have s0 : (0 : Nat) ≤ sizeLine := by decide
    have s1 : (1 : Nat) ≤ sizeLine := by decide
    have big := big_size
    refine ⟨8, rfl, by decide, by decide, fun r r0 r1 => ⟨by decide, by decide, ?_, fun i hi xs => ?_, ?_⟩⟩
    · rw [rangeD_len]
      decide
    · have : i = 5 := by simpa using hi
      subst this
      simp
    refine lcl_any Okt _ _ (fun y hy k hk => ?_) ?_ fun ys h1 h2 => ?_
    · refine ⟨rfl, 3, rfl, by decide, fun z a b c => ⟨rfl, hk z ⟨a, by omega, Nat.le_trans c (by decide)⟩⟩⟩
    · rw [rangeD_len, List.length_nil]
      show 0 + 12 ≤ sizeLine
      decide
    rw [rangeD_len] at h1
    have h1 : ys.length = 12 := h1
    rw [List.nil_append]
    refine ⟨s0, s0, s1, (show (5 : Nat) ≤ sizeLine by decide), (show ys.length + 5 ≤ sizeLine by omega), ?_⟩
    have hall : ∀ y ∈ ys ++ fiveD, Okt y := fun y hy => by
      rcases List.mem_append.mp hy with z | z
      · exact h2 y z
      · exact five_ok y z
    have hlen : (ys ++ fiveD).length = 17 := by
      rw [List.length_append, h1]
      rfl
    show match decide (r = 5) with | true => _ | false => _
    cases hr5 : decide (r = 5) with
    | false => exact law_rest rfl hall (by omega)
    | true =>
      refine ⟨0, rfl, by decide, fun z z1 z2 z3 => ?_⟩
      refine ⟨by decide, by decide, by decide +kernel, ?_⟩
      refine forl_inv (fun i env => ∃ y o5, env = [.un, .hd, .d (.bool true), .own (ys ++ fiveD), .d y, o5, .un, .un, .un, .un] ∧ good y = true ∧ y.depth ≤ i ∧ (wds y).length ≤ 1 + 3 * i) ⟨z, .un, by rw [← hr5]; rfl, z1, z2, z3⟩ (fun i x env E' hx hI nx _ _ _ => ?_) fun env hI => ?_
      · obtain ⟨y, o5, rfl, y1, y2, y3⟩ := hI
        have hi : i < 29 := by
          have := (List.getElem?_eq_some_iff.mp hx).1
          rw [rangeD_len] at this
          exact this
        have ex : x = .int (0 + (i : Int)) := rangeD_get hx
        subst ex
        refine ⟨s1, s1, 2, rfl, by decide, by decide, fun v v0 v1 => ⟨⟨by simp, by simp, v0, by omega⟩, ?_⟩⟩
        have hv : v = 0 ∨ v = 1 := by omega
        rcases hv with rfl | rfl
        · refine ⟨s1, nx _ ⟨.tuple [y], _, rfl, ?_, ?_, ?_⟩⟩
          · simp only [good, goodA, y1, Bool.and_true]
          · simp only [PyData.depth, PyData.depthAll]
            omega
          · simp only [wds, wdsA, List.length_cons, List.length_append, List.length_nil]
            omega
        · refine ⟨(show (2 : Nat) ≤ sizeLine by decide), nx _ ⟨.tuple [y, .int (0 + (i : Int))], _, rfl, ?_, ?_, ?_⟩⟩
          · simp only [good, goodA, y1, Bool.and_true, Bool.true_and]
            exact decide_eq_true (Nat.le_trans (show (0 + (i : Int)).natAbs ≤ 29 by omega) (by decide))
          · simp only [PyData.depth, PyData.depthAll]
            omega
          · simp only [wds, wdsA, List.length_cons, List.length_append, List.length_nil]
            omega
      · obtain ⟨y, o5, rfl, y1, y2, y3⟩ := hI
        rw [rangeD_len] at y2 y3
        have y2 : y.depth ≤ 29 := y2
        have y3 : (wds y).length ≤ 1 + 3 * 29 := y3
        refine ⟨⟨_, rfl⟩, (show (ys ++ fiveD).length < sizeLine by omega), ?_⟩
        refine law_rest rfl (xs := ys ++ fiveD ++ [y]) (fun z hz => ?_) (by rw [List.length_append, hlen]; show 17 + 1 ≤ 1000; decide)
        rcases List.mem_append.mp hz with hz | hz
        · exact hall z hz
        · have e : z = y := by simpa using hz
          subst e
          exact ⟨y1, by omega, by omega⟩
  · subst z
    cases dp_bl d
    exact hQ _
end
end L67
namespace L67
open PySem PySem.Spec PyProof.Rows L2 DL
/-- a def as it stands behind the top -/
structure Df (K : PySem.W.Frag) (x : Str) (st : Stmt) : Prop where
  ex : ∃ f fd, PySem.W.nsIn K mainGlobals x = some (some (.ref f)) ∧ Fun K x x st f fd
theorem df_mk {K : PySem.W.Frag} {x : Str} {st : Stmt} {f : Addr} {oc : Value} {od an : Option Addr} {sl : Array (Option Value)} {kV doc pm cd ct : Value} (a : PySem.W.nsIn K mainGlobals x = some (some (.ref f)))
    (l : K.lookup f = some ⟨oc, od, .func (PySem.W.fnOf x x (defArgs st) (defBody st) (defScope st) .none kV doc pm an cd ct), sl⟩) (c : PySem.W.codeIn K cd x = true) (k : PySem.W.keepIn K (.ref f) = true) : Df K x st := ⟨f, _, a, fun_mk l c k⟩
section
variable {P : Program} {w : World} {K : PySem.W.Frag} {h : Heap} {mg : Str → Option Value} {base : Heap}
theorem cal_mk {x : Str} {st : Stmt} {k c : Nat} {ps : List Str} {sp : List EV → (D → Prop) → Prop} (X : K.In h) (G : h.Ns mainGlobals mg) (d : Df K x st)
    (hb : ∀ (kV doc pm : Value) (an : Option Addr) (cdv ct : Value) (us : List Value), us.length = ps.length → bindArgs (PySem.W.fnOf x x (defArgs st) (defBody st) (defScope st) .none kV doc pm an cdv ct) ⟨us, []⟩ = pure (ps.zip us))
    (hF : ∀ f fd, Fun K x x st f fd → FnG P w K mg base CX0 k f fd ps (spD K c sp)) : Cal P w K mg base x k ps c sp := by
  obtain ⟨f, fd, a, F⟩ := d.ex
  exact ⟨f, fd, hF f fd F, PySem.W.mg_of X G a, F.kp, F.binds hb⟩
theorem calK_mk {x : Str} {st : Stmt} {k c : Nat} {ps : List Str} {sp : List EV → (D → Prop) → Prop} (X : K.In h) (G : h.Ns mainGlobals mg) (d : Df K x st)
    (hb : ∀ (kV doc pm : Value) (an : Option Addr) (cdv ct : Value) (us : List Value), us.length = ps.length → bindArgs (PySem.W.fnOf x x (defArgs st) (defBody st) (defScope st) .none kV doc pm an cdv ct) ⟨[], ps.zip us⟩ = pure (ps.zip us))
    (hF : ∀ f fd, Fun K x x st f fd → FnG P w K mg base CX0 k f fd ps (spD K c sp)) : CalK P w K mg base x k ps c sp := by
  obtain ⟨f, fd, a, F⟩ := d.ex
  refine ⟨f, fd, hF f fd F, PySem.W.mg_of X G a, F.kp, ?_⟩
  obtain ⟨oc, od, kV, doc, pm, an, cdv, ct, osl, rfl, lk, hcd⟩ := F.ex
  exact fun s us hl => .of_eq (hb kV doc pm an cdv ct us hl)
/-- a constant of the module -/
theorem glob_atom {x : Str} {u : Value} {v : V} {y : D} (X : K.In h) (G : h.Ns mainGlobals mg) (a : PySem.W.nsIn K mainGlobals x = some (some u)) (r : RelV v u) (hd : ∀ G, Dr K G v y) : GlobD K mg x y := ⟨v, u, PySem.W.mg_of X G a, r, hd⟩
theorem glob_int {x : Str} {i : Int} {t : Tok} (X : K.In h) (G : h.Ns mainGlobals mg) (a : PySem.W.nsIn K mainGlobals x = some (some (.int i t))) : GlobD K mg x (.int i) := ⟨.int i, _, PySem.W.mg_of X G a, ⟨t, rfl⟩, fun _ => .int i⟩
theorem glob_str {x : Str} {z : Str} {t : Tok} (X : K.In h) (G : h.Ns mainGlobals mg) (a : PySem.W.nsIn K mainGlobals x = some (some (.str z t))) : GlobD K mg x (.str z) := ⟨.str z, _, PySem.W.mg_of X G a, ⟨t, rfl⟩, fun _ => .str z⟩
theorem glob_tup {x : Str} {a : Addr} {od : Option Addr} {its : List Value} {n : Nat} {sl : Array (Option Value)} {ys : List D} {vs : List V} (X : K.In h) (G : h.Ns mainGlobals mg) (e : PySem.W.nsIn K mainGlobals x = some (some (.ref a)))
    (l : K.lookup a = some ⟨.type "tuple", od, .seq its.toArray n, sl⟩) (hz : its.length ≤ sizeLine) (hv : Vals vs its) (hd : ∀ G, DrAll K G vs ys) : GlobD K mg x (.tuple ys) :=
  ⟨.ref a, .ref a, PySem.W.mg_of X G e, rfl, fun G => .tup (.inr ⟨_, its.toArray, n, l, rfl, rfl, by rw [List.size_toArray]; exact hz, by simpa using hv⟩) (hd G)⟩
theorem vals_strs : ∀ {l : List Str} {us : List Value}, Paired (fun (z : Str) u => ∃ t, u = Value.str z t) l us → Vals (l.map V.str) us
  | _, _, .nil => .nil
  | _, _, .cons a t => .cons a (vals_strs t)
theorem all_mk {l : PySem.W.OpenLaw} (X : K.In h) (G : h.Ns mainGlobals mg) {fa : Addr} (hfa : mg "law" = some (.ref fa))
    (z1 : PySem.W.nsIn K mainGlobals "len" = some none) (z2 : PySem.W.nsIn K mainGlobals "all" = some none) (z3 : PySem.W.nsIn K mainGlobals "isinstance" = some none) (z4 : PySem.W.nsIn K mainGlobals "str" = some none) (z5 : PySem.W.nsIn K mainGlobals "int" = some none) (z6 : PySem.W.nsIn K mainGlobals "range" = some none) (z7 : PySem.W.nsIn K mainGlobals "list" = some none) (z8 : PySem.W.nsIn K mainGlobals "repr" = some none) (z9 : PySem.W.nsIn K mainGlobals "tuple" = some none) (z10 : PySem.W.nsIn K mainGlobals "enumerate" = some none)
    (g1 : GlobD K mg "OPEN" (.str "(")) (g2 : GlobD K mg "SHUT" (.str ")")) (g3 : GlobD K mg "NONE" (.str "none")) (g4 : GlobD K mg "QUOTE" (.str "'")) (g5 : GlobD K mg "FIGURES" (.str figText)) (g6 : GlobD K mg "MOST_FIGURES" (.int 4000))
    (d1 : Df K "words_of" s_words_of) (d2 : Df K "show_thing" s_show_thing) (d3 : Df K "is_number" s_is_number) (d4 : Df K "part_in" s_part_in) (d5 : Df K "read_thing" s_read_thing) (d6 : Df K "_law_deck" s_law_deck) (d7 : Df K "_law_draw" s_law_draw) (d8 : Df K "_law_thing" s_law_thing) (d9 : Df K "_law_words_of" s_law_words_of) (d10 : Df K "law" s_law) :
    ∃ fd : FuncData, (∀ (s : Shared) (v : Value), BindsTo s fd ⟨[v], []⟩ [("_law_script", v)]) ∧ ∀ base : Heap, K.In base → base.Ns mainGlobals mg → FnG l.prog w K mg base CX0 44 fa fd ["_law_script"] (spLaw K) := by
  obtain ⟨fl, fdl, al, Fl⟩ := d10.ex
  have e := hfa.symm.trans (PySem.W.mg_of X G al)
  cases e
  have n := fun {x : Str} (z : PySem.W.nsIn K mainGlobals x = some none) => PySem.W.mg_none_of X G z
  have T : Tb K mg := ⟨n z1, n z2, n z3, n z4, n z5, n z6, n z7, n z8, n z9, n z10, g1, g2, g3, g4, g5, g6⟩
  refine ⟨fdl, fun s v => ?_, fun base _ _ => ?_⟩
  · obtain ⟨oc, od, kV, doc, pm, an, cdv, ct, osl, rfl, lk, hcd⟩ := Fl.ex
    exact .of_eq rfl
  · obtain ⟨f2, fd2, a2, F2⟩ := d6.ex
    have cdr : Cal l.prog w K mg base "_law_draw" 1 ["_law_deck_here", "_law_sides"] 1 spDraw := cal_mk X G d7 (fun _ _ _ _ _ _ us hl => match us, hl with | [_, _], _ => rfl) fun f fd F => ok_draw F
    have cno : Cal l.prog w K mg base "is_number" 1 ["word"] 0 spNum := cal_mk X G d3 (fun _ _ _ _ _ _ us hl => match us, hl with | [_], _ => rfl) fun f fd F => ok_is_number T F
    have cpa : Cal l.prog w K mg base "part_in" 2 ["word", "at"] 0 spPart := cal_mk X G d4 (fun _ _ _ _ _ _ us hl => match us, hl with | [_, _], _ => rfl) fun f fd F => ok_part_in T cno F
    have cwo : ∀ d, Cal l.prog w K mg base "words_of" d ["thing"] 0 (spW d) := fun d => by
      induction d with
      | zero => exact cal_mk X G d1 (fun _ _ _ _ _ _ us hl => match us, hl with | [_], _ => rfl) fun f fd F => fn_never fun as Pd ⟨x, _, _, z, _⟩ => Nat.not_lt_zero _ z
      | succ d ih => exact cal_mk X G d1 (fun _ _ _ _ _ _ us hl => match us, hl with | [_], _ => rfl) fun f fd F => ok_words_of T d ih F
    have clw : ∀ d, Cal l.prog w K mg base "_law_words_of" d ["_law_one"] 0 (spW d) := fun d => by
      induction d with
      | zero => exact cal_mk X G d9 (fun _ _ _ _ _ _ us hl => match us, hl with | [_], _ => rfl) fun f fd F => fn_never fun as Pd ⟨x, _, _, z, _⟩ => Nat.not_lt_zero _ z
      | succ d ih => exact cal_mk X G d9 (fun _ _ _ _ _ _ us hl => match us, hl with | [_], _ => rfl) fun f fd F => ok_law_words_of T d ih F
    have cth : ∀ m, Cal l.prog w K mg base "_law_thing" (m + 1) ["_law_deck_here", "_law_deep"] (cT m) (spT m) := fun m => by
      induction m with
      | zero => exact cal_mk X G d8 (fun _ _ _ _ _ _ us hl => match us, hl with | [_, _], _ => rfl) fun f fd F => fn_never fun as Pd ⟨x, _, z, _⟩ => Nat.not_lt_zero _ z
      | succ m ih => exact cal_mk X G d8 (fun _ _ _ _ _ _ us hl => match us, hl with | [_, _], _ => rfl) fun f fd F => ok_thing T m cdr ih F
    have cs : Cal l.prog w K mg base "show_thing" 43 ["thing"] 0 (spShow 42) := cal_mk X G d2 (fun _ _ _ _ _ _ us hl => match us, hl with | [_], _ => rfl) fun f fd F => ok_show_thing T 42 (cwo 42) F
    have csk : CalK l.prog w K mg base "show_thing" 43 ["thing"] 0 (spShow 42) := calK_mk X G d2 (fun _ _ _ _ _ _ us hl => match us, hl with | [_], _ => rfl) fun f fd F => ok_show_thing T 42 (cwo 42) F
    have cr : Cal l.prog w K mg base "read_thing" 3 ["text"] 0 spRead := cal_mk X G d5 (fun _ _ _ _ _ _ us hl => match us, hl with | [_], _ => rfl) fun f fd F => ok_read T cpa F
    have crk : CalK l.prog w K mg base "read_thing" 3 ["text"] 0 spRead := calK_mk X G d5 (fun _ _ _ _ _ _ us hl => match us, hl with | [_], _ => rfl) fun f fd F => ok_read T cpa F
    exact ok_law T (ok_deck T.n_len T.n_list F2) (PySem.W.mg_of X G a2) F2.kp (F2.binds fun _ _ _ _ _ _ us hl => match us, hl with | [_], _ => rfl) cdr (cth 4) (clw 42) cs csk cr crk Fl
end
end L67
open PySem PySem.W PyProof.Rows
set_option maxHeartbeats 0 in
theorem PySem.Challenge.cw_wiretongue_k67_things_there_and_back_holds : PySem.Challenge.rw_wiretongue_k67_things_there_and_back.Holds := by
  w_on; o_law; k_head; (case hw => w_witness2)
  k_fill
  refine DL.walkG (l := PySem.Challenge.rw_wiretongue_k67_things_there_and_back) (n := 63) (k := 44) (x := "_law_script") (sp := L67.spLaw) rfl (by decide) rfl ⟨⟨rfl, by decide, by decide⟩, rfl⟩ (fun w h Y => PySem.W.kIn_of Y) ?F (fun K H a ns hl hb _ hS => ⟨a, ns, rfl, hS, hl, hb, fun _ => rfl⟩)
  case F =>
    intro w mg fa h KX G hmg
    refine' L67.all_mk KX G hmg ?z1 ?z2 ?z3 ?z4 ?z5 ?z6 ?z7 ?z8 ?z9 ?z10 (L67.glob_str KX G ?h1) (L67.glob_str KX G ?h2) (L67.glob_str KX G ?h3) (L67.glob_str KX G ?h4) (L67.glob_str KX G ?h5) (L67.glob_int KX G ?h6) (L67.df_mk ?a1 ?l1 ?c1 ?k1) (L67.df_mk ?a2 ?l2 ?c2 ?k2) (L67.df_mk ?a3 ?l3 ?c3 ?k3) (L67.df_mk ?a4 ?l4 ?c4 ?k4) (L67.df_mk ?a5 ?l5 ?c5 ?k5) (L67.df_mk ?a6 ?l6 ?c6 ?k6) (L67.df_mk ?a7 ?l7 ?c7 ?k7) (L67.df_mk ?a8 ?l8 ?c8 ?k8) (L67.df_mk ?a9 ?l9 ?c9 ?k9) (L67.df_mk ?a10 ?l10 ?c10 ?k10)
    (case z1 => k_is); (case z2 => k_is); (case z3 => k_is); (case z4 => k_is); (case z5 => k_is); (case z6 => k_is); (case z7 => k_is); (case z8 => k_is); (case z9 => k_is); (case z10 => k_is)
    (case h1 => k_is); (case h2 => k_is); (case h3 => k_is); (case h4 => k_is); (case h5 => k_is); (case h6 => k_is)
    (case a1 => k_is); (case l1 => k_is); (case c1 => k_is); (case k1 => k_is)
    (case a2 => k_is); (case l2 => k_is); (case c2 => k_is); (case k2 => k_is)
    (case a3 => k_is); (case l3 => k_is); (case c3 => k_is); (case k3 => k_is)
    (case a4 => k_is); (case l4 => k_is); (case c4 => k_is); (case k4 => k_is)
    (case a5 => k_is); (case l5 => k_is); (case c5 => k_is); (case k5 => k_is)
    (case a6 => k_is); (case l6 => k_is); (case c6 => k_is); (case k6 => k_is)
    (case a7 => k_is); (case l7 => k_is); (case c7 => k_is); (case k7 => k_is)
    (case a8 => k_is); (case l8 => k_is); (case c8 => k_is); (case k8 => k_is)
    (case a9 => k_is); (case l9 => k_is); (case c9 => k_is); (case k9 => k_is)
    (case a10 => k_is); (case l10 => k_is); (case c10 => k_is); (case k10 => k_is)
