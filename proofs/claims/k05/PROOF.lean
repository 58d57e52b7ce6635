import PyProof.Rows.All
import Wide.All
import OpenK.AllK
import Wide.FinOn
import HandS.ForMost
import HandS.IsInst
import HandS.Wide
import HandS.TupAny
import HandS.WideBits
import HandS.Flow
import PyProof.NeKinds
import HandS.EndBits
import HandS.Style
import HandS.RaiseMore
import PyProof.ReprRoads
import HandS.Conv
import KE.KUnpackStar
import HandS.TupMul
import KE.DataMinMax
import HandS.SortKw
import HandS.Zip
import PyProof.Draws
import HandS.MakeKwOnly
import KE.KRevSl
import KE.GoesMore
import HandS.Deep
import HandS.More
import HandS.NoneIn
import KE.KIntText
import PySem.Challenge.RW_wiretongue_k05_whole_written_and_read_ag
set_option Elab.async false
set_option linter.all false
set_option autoImplicit false
set_option maxRecDepth 100000
set_option maxHeartbeats 4000000
/-! DL: readings at the level of data. -/
namespace DL
open PySem PySem.Spec PyProof.Rows L2
abbrev D := PyData
/-- what an object that is written holds -/
inductive SC where
  | lst (xs : List D)
  | ins (C : Addr) (fs : List (Str × D))
  | dic (kvs : List (Key × D))
/-- what is known of a slot: nothing, data (published), the handle, an object that is written (none: one's own, not shared; some j: lent, the j-th); as an argument: the object in slot i -/
inductive EV where
  | un
  | d (x : D)
  | hd
  | mo (w : Option Nat) (c : SC)
  | at (i : Nat)
abbrev EV.own (xs : List D) : EV := .mo none (.lst xs)
abbrev DEnv := List EV
/-- the deck: a dict with its cells (a list at c), seed, at -/
def deckKv (c : Addr) (seed ct : Int) : List (Key × V) := [(Sum.inr "cells", .ref c), (Sum.inr "seed", .int seed), (Sum.inr "at", .int ct)]
def bigM : Int := 170141183460469231731687303715884105727
/-- more draws than any law makes -/
@[irreducible] def ctMax : Nat := 2 ^ 100000
def deckInv (dk c : Addr) (B : Nat) (H : Hp) : Prop := dk ≠ c ∧ ∃ (cells : List Int) (seed ct : Int), H dk = some (.dK (deckKv c seed ct)) ∧ H c = some (.lst (cells.map V.int)) ∧ cells.length ≤ 63 ∧
  (∀ z ∈ cells, Builtin.Int.intBits z ≤ 1048576) ∧ 0 ≤ seed ∧ seed < bigM ∧ 0 ≤ ct ∧ ct + (B : Int) ≤ (ctMax : Int)
/-- the handle: none, or a deck by its two addresses -/
abbrev Wk := Option (Addr × Addr)
def Wk.hv : Wk → V
  | none => .non
  | some (dk, _) => .ref dk
def Wk.mu : Wk → Addr → Prop
  | none, _ => False
  | some (dk, c), a => a = dk ∨ a = c
def Wk.inv : Wk → Nat → Hp → Prop
  | none, _, _ => True
  | some (dk, c), B, H => deckInv dk c B H
/-- the handle, and what is lent -/
structure Wd where
  dk : Wk
  sh : List Addr
abbrev Wd.of (k : Wk) : Wd := ⟨k, []⟩
def Wd.hv (W : Wd) : V := W.dk.hv
def Wd.mu (W : Wd) (a : Addr) : Prop := W.dk.mu a ∨ a ∈ W.sh
def Wd.inv (W : Wd) (B : Nat) (H : Hp) : Prop := W.dk.inv B H ∧ (∀ a ∈ W.sh, ¬ W.dk.mu a) ∧ ∀ a ∈ W.sh, ∃ o, H a = some o
theorem Wk.loc : ∀ (W : Wk) (B : Nat) (H H' : Hp), (∀ a, W.mu a → H' a = H a) → W.inv B H → W.inv B H'
  | none, _, _, _, _, _ => trivial
  | some (dk, c), B, H, H', e, h => by
    obtain ⟨ne, cells, seed, ct, h1, h2, r⟩ := h
    exact ⟨ne, cells, seed, ct, (e dk (.inl rfl)).trans h1, (e c (.inr rfl)).trans h2, r⟩
theorem Wk.trk : ∀ (W : Wk) (B : Nat) (H : Hp) (a : Addr), W.inv B H → W.mu a → ∃ o, H a = some o
  | none, _, _, _, _, m => m.elim
  | some (dk, c), B, H, a, h, m => by
    obtain ⟨ne, cells, seed, ct, h1, h2, r⟩ := h
    rcases m with rfl | rfl
    · exact ⟨_, h1⟩
    · exact ⟨_, h2⟩
theorem Wk.low : ∀ (W : Wk) (B B' : Nat) (H : Hp), B' ≤ B → W.inv B H → W.inv B' H
  | none, _, _, _, _, _ => trivial
  | some (dk, c), B, B', H, l, h => by
    obtain ⟨ne, cells, seed, ct, h1, h2, h3, h4, h5, h6, h7, h8⟩ := h
    exact ⟨ne, cells, seed, ct, h1, h2, h3, h4, h5, h6, h7, by omega⟩
/-- a step that keeps the deck and what is lent, though it may write into the latter -/
theorem Wd.loc' (W : Wd) (B : Nat) (H H' : Hp) (e : ∀ a, W.dk.mu a → H' a = H a) (f : ∀ a ∈ W.sh, ∃ o, H' a = some o) (h : W.inv B H) : W.inv B H' := ⟨W.dk.loc B H H' e h.1, h.2.1, f⟩
theorem Wd.loc (W : Wd) (B : Nat) (H H' : Hp) (e : ∀ a, W.mu a → H' a = H a) (h : W.inv B H) : W.inv B H' :=
  W.loc' B H H' (fun a m => e a (.inl m)) (fun a m => by rw [e a (.inr m)]; exact h.2.2 a m) h
theorem Wd.trk (W : Wd) (B : Nat) (H : Hp) (a : Addr) (h : W.inv B H) (m : W.mu a) : ∃ o, H a = some o := m.elim (fun m => W.dk.trk B H a h.1 m) fun m => h.2.2 a m
theorem Wd.low (W : Wd) (B B' : Nat) (H : Hp) (l : B' ≤ B) (h : W.inv B H) : W.inv B' H := ⟨W.dk.low B B' H l h.1, h.2⟩
theorem of_mu {k : Wk} {a : Addr} : (Wd.of k).mu a ↔ k.mu a := ⟨fun m => m.elim id fun z => (by cases z), .inl⟩
theorem of_inv {k : Wk} {B : Nat} {H : Hp} : (Wd.of k).inv B H ↔ k.inv B H := ⟨fun h => h.1, fun h => ⟨h, (fun a z => by cases z), fun a z => by cases z⟩⟩
/-- a key as data -/
def keyD : Key → D
  | .inl i => .int i
  | .inr z => .str z
mutual
/-- a value is data: lists and dicts are tracked ones, tuples may stand in the written part -/
inductive Dr (K : PySem.W.Frag) (G : Hp) : V → D → Prop
  | non : Dr K G .non .none
  | bl (b : Bool) : Dr K G (.bl b) (.bool b)
  | int (i : Int) : Dr K G (.int i) (.int i)
  | str (x : Str) : Dr K G (.str x) (.str x)
  | lst {a : Addr} {xs : List V} {ds : List D} : G a = some (.lst xs) → DrAll K G xs ds → Dr K G (.ref a) (.list ds)
  | tup {a : Addr} {xs : List V} {ds : List D} : SqT K G a xs → DrAll K G xs ds → Dr K G (.ref a) (.tuple ds)
  | dic {a : Addr} {kvs : List (Key × V)} {ds : List (D × D)} : G a = some (.dK kvs) → DrKv K G kvs ds → Dr K G (.ref a) (.dict ds)
inductive DrAll (K : PySem.W.Frag) (G : Hp) : List V → List D → Prop
  | nil : DrAll K G [] []
  | cons {v : V} {vs : List V} {d : D} {ds : List D} : Dr K G v d → DrAll K G vs ds → DrAll K G (v :: vs) (d :: ds)
inductive DrKv (K : PySem.W.Frag) (G : Hp) : List (Key × V) → List (D × D) → Prop
  | nil : DrKv K G [] []
  | cons {k : Key} {v : V} {vs : List (Key × V)} {d : D} {ds : List (D × D)} : Dr K G v d → DrKv K G vs ds → DrKv K G ((k, v) :: vs) ((keyD k, d) :: ds)
end
section
variable {K : PySem.W.Frag}
theorem same_sqT {H H' : Hp} {a : Addr} {xs : List V} (e : Same H H') (h : SqT K H a xs) : SqT K H' a xs := by
  rcases h with (h | ⟨o, h⟩) | h
  · exact .inl (.inl (e _ _ h))
  · exact .inl (.inr ⟨o, e _ _ h⟩)
  · exact .inr h
mutual
theorem dp_same {G G' : Hp} (e : Same G G') : ∀ {v : V} {x : D}, Dr K G v x → Dr K G' v x
  | _, _, .non => .non
  | _, _, .bl b => .bl b
  | _, _, .int i => .int i
  | _, _, .str z => .str z
  | _, _, .lst h a => .lst (e _ _ h) (dpAll_same e a)
  | _, _, .tup h a => .tup (same_sqT e h) (dpAll_same e a)
  | _, _, .dic h a => .dic (e _ _ h) (dpKv_same e a)
theorem dpAll_same {G G' : Hp} (e : Same G G') : ∀ {vs : List V} {xs : List D}, DrAll K G vs xs → DrAll K G' vs xs
  | _, _, .nil => .nil
  | _, _, .cons h t => .cons (dp_same e h) (dpAll_same e t)
theorem dpKv_same {G G' : Hp} (e : Same G G') : ∀ {vs : List (Key × V)} {xs : List (D × D)}, DrKv K G vs xs → DrKv K G' vs xs
  | _, _, .nil => .nil
  | _, _, .cons h t => .cons (dp_same e h) (dpKv_same e t)
end
theorem dpAll_len {G : Hp} : ∀ {vs : List V} {xs : List D}, DrAll K G vs xs → vs.length = xs.length
  | _, _, .nil => rfl
  | _, _, .cons _ t => congrArg (· + 1) (dpAll_len t)
theorem dpAll_app {G : Hp} : ∀ {vs us : List V} {xs ys : List D}, DrAll K G vs xs → DrAll K G us ys → DrAll K G (vs ++ us) (xs ++ ys)
  | _, _, _, _, .nil, h => h
  | _, _, _, _, .cons a t, h => .cons a (dpAll_app t h)
theorem dpAll_one {G : Hp} {v : V} {x : D} (h : Dr K G v x) : DrAll K G [v] [x] := .cons h .nil
theorem dpAll_get {G : Hp} : ∀ {vs : List V} {xs : List D} {i : Nat} {x : D}, DrAll K G vs xs → xs[i]? = some x → ∃ v, vs[i]? = some v ∧ Dr K G v x
  | _, _, 0, _, .cons a _, h => by
    cases h
    exact ⟨_, rfl, a⟩
  | _, _, i + 1, _, .cons _ t, h => by
    obtain ⟨v, e, q⟩ := dpAll_get (i := i) t h
    exact ⟨v, e, q⟩
theorem dpAll_getV {G : Hp} : ∀ {vs : List V} {xs : List D} {i : Nat} {v : V}, DrAll K G vs xs → vs[i]? = some v → ∃ x, xs[i]? = some x ∧ Dr K G v x
  | _, _, 0, _, .cons a _, h => by
    cases h
    exact ⟨_, rfl, a⟩
  | _, _, i + 1, _, .cons _ t, h => by
    obtain ⟨v, e, q⟩ := dpAll_getV (i := i) t h
    exact ⟨v, e, q⟩
theorem dpAll_take {G : Hp} : ∀ {vs : List V} {xs : List D} (n : Nat), DrAll K G vs xs → DrAll K G (vs.take n) (xs.take n)
  | _, _, 0, _ => .nil
  | _, _, _ + 1, .nil => .nil
  | _, _, n + 1, .cons a t => .cons a (dpAll_take n t)
theorem dpAll_drop {G : Hp} : ∀ {vs : List V} {xs : List D} (n : Nat), DrAll K G vs xs → DrAll K G (vs.drop n) (xs.drop n)
  | _, _, 0, h => h
  | _, _, _ + 1, .nil => .nil
  | _, _, n + 1, .cons _ t => dpAll_drop n t
theorem dpAll_set {G : Hp} {v : V} {x : D} (a : Dr K G v x) : ∀ {vs : List V} {xs : List D} (n : Nat), DrAll K G vs xs → DrAll K G (vs.set n v) (xs.set n x)
  | _, _, _, .nil => .nil
  | _, _, 0, .cons _ t => .cons a t
  | _, _, n + 1, .cons b t => .cons b (dpAll_set a n t)
theorem dpAll_rev {G : Hp} : ∀ {vs : List V} {xs : List D}, DrAll K G vs xs → DrAll K G vs.reverse xs.reverse
  | _, _, .nil => .nil
  | _, _, .cons a t => by
    rw [List.reverse_cons, List.reverse_cons]
    exact dpAll_app (dpAll_rev t) (dpAll_one a)
theorem dp_int {G : Hp} {v : V} {i : Int} (h : Dr K G v (.int i)) : v = .int i := by cases h; rfl
theorem dp_str {G : Hp} {v : V} {z : Str} (h : Dr K G v (.str z)) : v = .str z := by cases h; rfl
theorem dp_bl {G : Hp} {v : V} {b : Bool} (h : Dr K G v (.bool b)) : v = .bl b := by cases h; rfl
theorem dp_non {G : Hp} {v : V} (h : Dr K G v .none) : v = .non := by cases h; rfl
theorem dp_lst {G : Hp} {v : V} {xs : List D} (h : Dr K G v (.list xs)) : ∃ a vs, v = .ref a ∧ G a = some (.lst vs) ∧ DrAll K G vs xs := by
  cases h
  exact ⟨_, _, rfl, by assumption, by assumption⟩
theorem dp_tup {G : Hp} {v : V} {xs : List D} (h : Dr K G v (.tuple xs)) : ∃ a vs, v = .ref a ∧ SqT K G a vs ∧ DrAll K G vs xs := by
  cases h
  exact ⟨_, _, rfl, by assumption, by assumption⟩
theorem dp_dic {G : Hp} {v : V} {xs : List (D × D)} (h : Dr K G v (.dict xs)) : ∃ a vs, v = .ref a ∧ G a = some (.dK vs) ∧ DrKv K G vs xs := by
  cases h
  exact ⟨_, _, rfl, by assumption, by assumption⟩
mutual
def noDict : D → Bool
  | .dict _ => false
  | .list xs => noDicts xs
  | .tuple xs => noDicts xs
  | _ => true
def noDicts : List D → Bool
  | [] => true
  | x :: r => noDict x && noDicts r
end
mutual
theorem dr_dp {G : Hp} : ∀ {v : V} {x : D}, Dr K G v x → noDict x = true → Dp K G v x
  | _, _, .non, _ => .non
  | _, _, .bl b, _ => .bl b
  | _, _, .int i, _ => .int i
  | _, _, .str z, _ => .str z
  | _, _, .lst h a, n => .lst (SqL.of h) (drAll_dp a (by simpa [noDict] using n))
  | _, _, .tup h a, n => .tup h (drAll_dp a (by simpa [noDict] using n))
  | _, _, .dic h a, n => by simp [noDict] at n
theorem drAll_dp {G : Hp} : ∀ {vs : List V} {xs : List D}, DrAll K G vs xs → noDicts xs = true → DpAll K G vs xs
  | _, _, .nil, _ => .nil
  | _, _, .cons h t, n => by
    simp only [noDicts, Bool.and_eq_true] at n
    exact .cons (dr_dp h n.1) (drAll_dp t n.2)
end
/-- ints, texts, truths, None as values -/
def atomV : D → Option V
  | .none => some .non
  | .bool b => some (.bl b)
  | .int i => some (.int i)
  | .str z => some (.str z)
  | _ => none
theorem dp_atom {G : Hp} {x : D} {v : V} (h : atomV x = some v) : Dr K G v x := by
  cases x <;> simp [atomV] at h <;> subst h <;> constructor
theorem atom_dp {G : Hp} {x : D} {v u : V} (h : atomV x = some v) (q : Dr K G u x) : u = v := by
  cases x <;> simp [atomV] at h <;> subst h <;> cases q <;> rfl

/-! ### states -/
structure RW (W : Wd) (B : Nat) (G0 H0 G H : Hp) : Prop where
  g0 : Same G0 G
  pub : Same G H
  gm : ∀ a, W.mu a → G a = none
  inv : W.inv B H
  fr : ∀ a o, H0 a = some o → ¬ W.mu a → H a = some o
  pn : ∀ a o, G a = some o → G0 a = none → H0 a = none
/-- fields, entries by data -/
inductive DrFs {α : Type} (K : PySem.W.Frag) (G : Hp) : List (α × V) → List (α × D) → Prop
  | nil : DrFs K G [] []
  | cons {k : α} {v : V} {vs : List (α × V)} {d : D} {ds : List (α × D)} : Dr K G v d → DrFs K G vs ds → DrFs K G ((k, v) :: vs) ((k, d) :: ds)
theorem drFs_same {α : Type} {G G' : Hp} (e : Same G G') : ∀ {vs : List (α × V)} {xs : List (α × D)}, DrFs K G vs xs → DrFs K G' vs xs
  | _, _, .nil => .nil
  | _, _, .cons h t => .cons (dp_same e h) (drFs_same e t)
def ScOk (K : PySem.W.Frag) (G H : Hp) (l : Addr) : SC → Prop
  | .lst xs => ∃ vs, H l = some (.lst vs) ∧ DrAll K G vs xs
  | .ins C fs => ∃ dx us, H l = some (.ins C dx us) ∧ DrFs K G us fs
  | .dic kvs => ∃ us, H l = some (.dK us) ∧ DrFs K G us kvs
theorem scok_some {G H : Hp} {l : Addr} : ∀ {c : SC}, ScOk K G H l c → ∃ o, H l = some o
  | .lst _, ⟨_, h, _⟩ => ⟨_, h⟩
  | .ins _ _, ⟨_, _, h, _⟩ => ⟨_, h⟩
  | .dic _, ⟨_, h, _⟩ => ⟨_, h⟩
theorem scok_later {G G' H H' : Hp} {l : Addr} (s : Same G G') (e : ∀ o, H l = some o → H' l = some o) : ∀ {c : SC}, ScOk K G H l c → ScOk K G' H' l c
  | .lst _, ⟨vs, h, q⟩ => ⟨vs, e _ h, dpAll_same s q⟩
  | .ins _ _, ⟨dx, us, h, q⟩ => ⟨dx, us, e _ h, drFs_same s q⟩
  | .dic _, ⟨us, h, q⟩ => ⟨us, e _ h, drFs_same s q⟩
/-- whose it is -/
def Owns (W : Wd) (H0 : Hp) (l : Addr) : Option Nat → Prop
  | none => H0 l = none ∧ ¬ W.mu l
  | some j => W.sh[j]? = some l
def SlotOk (K : PySem.W.Frag) (W : Wd) (H0 G H : Hp) : EV → Option V → Prop
  | .un, _ => True
  | .d x, s => ∃ v, s = some v ∧ Dr K G v x
  | .hd, s => s = some W.hv ∧ W.dk ≠ none
  | .mo w c, s => ∃ l, s = some (.ref l) ∧ G l = none ∧ Owns W H0 l w ∧ ScOk K G H l c
  | .at _, _ => True
structure Rel (K : PySem.W.Frag) (W : Wd) (B : Nat) (G0 H0 G : Hp) (env : DEnv) (σ : L2.St) (H : Hp) : Prop extends RW W B G0 H0 G H where
  len : env.length = σ.length
  slot : ∀ (i : Nat) e s, env[i]? = some e → σ[i]? = some s → SlotOk K W H0 G H e s
  dis : ∀ (i j : Nat) wi ci wj cj l, i ≠ j → env[i]? = some (.mo wi ci) → env[j]? = some (.mo wj cj) → σ[i]? = some (some (.ref l)) → σ[j]? ≠ some (some (.ref l))
/-- a step that makes new objects alone, some of them published -/
structure Grow (G H G' H' : Hp) : Prop where
  eg : Same G G'
  eh : Same H H'
  pub : Same G' H'
  new : ∀ a o, G' a = some o → G a = none → H a = none
theorem Grow.refl {G H : Hp} (p : Same G H) : Grow G H G H := ⟨Same.refl _, Same.refl _, p, fun _ _ h h' => by rw [h] at h'; cases h'⟩
theorem Grow.trans {G H G1 H1 G2 H2 : Hp} (a : Grow G H G1 H1) (b : Grow G1 H1 G2 H2) : Grow G H G2 H2 :=
  ⟨a.eg.trans b.eg, a.eh.trans b.eh, b.pub, fun x o h h' => by
    cases e : G1 x with
    | none => exact a.eh.free (b.new x o h e)
    | some u => exact a.new x u e h'⟩
theorem same_upd {H : Hp} {p : Addr} {o : HO} (h : H p = none) : Same H (upd H p o) := fun b x e => by
  rw [upd_ne (ne_of_none e h)]
  exact e
/-- a new object, published -/
theorem Grow.new1 {G H : Hp} {p : Addr} {o : HO} (s : Same G H) (h : H p = none) : Grow G H (upd G p o) (upd H p o) :=
  ⟨same_upd (s.free h), same_upd h, fun a u e => by
    by_cases z : a = p
    · subst z
      rw [upd_same] at e ⊢
      exact e
    · rw [upd_ne z] at e ⊢
      exact s a u e, fun a u e e' => by
    by_cases z : a = p
    · subst z
      exact h
    · rw [upd_ne z, e'] at e
      cases e⟩
/-- a new object, not published -/
theorem Grow.hid {G H : Hp} {p : Addr} {o : HO} (s : Same G H) (h : H p = none) : Grow G H G (upd H p o) :=
  ⟨Same.refl _, same_upd h, s.trans (same_upd h), fun a u e e' => by rw [e'] at e; cases e⟩
theorem slot_grow {W : Wd} {H0 G H G' H' : Hp} (g : Grow G H G' H') : ∀ {e : EV} {s : Option V}, SlotOk K W H0 G H e s → SlotOk K W H0 G' H' e s
  | .un, _, _ => trivial
  | .d _, _, ⟨v, e, q⟩ => ⟨v, e, dp_same g.eg q⟩
  | .mo w c, _, ⟨l, e, n, o, q⟩ => ⟨l, e, (by
      cases z : G' l with
      | none => rfl
      | some u =>
        have := g.new l u z n
        obtain ⟨u2, h⟩ := scok_some q
        rw [h] at this
        cases this), o, scok_later g.eg (g.eh l) q⟩
  | .hd, _, h => h
  | .at _, _, _ => trivial
theorem RW.grow {W : Wd} {B : Nat} {G0 H0 G H G' H' : Hp} (r : RW W B G0 H0 G H) (g : Grow G H G' H') : RW W B G0 H0 G' H' where
  g0 := r.g0.trans g.eg
  pub := g.pub
  gm := fun a m => by
    cases z : G' a with
    | none => rfl
    | some o =>
      obtain ⟨u, e⟩ := W.trk B H a r.inv m
      have := g.new a o z (r.gm a m)
      rw [e] at this
      cases this
  inv := W.loc B H H' (fun a m => by
    obtain ⟨u, e⟩ := W.trk B H a r.inv m
    rw [e]
    exact g.eh _ _ e) r.inv
  fr := fun a o h m => g.eh _ _ (r.fr a o h m)
  pn := fun a o h h0 => by
    cases z : G a with
    | some u => exact r.pn a u z h0
    | none =>
      have hn := g.new a o h z
      cases y : H0 a with
      | none => rfl
      | some u =>
        by_cases m : W.mu a
        · obtain ⟨u2, e⟩ := W.trk B H a r.inv m
          rw [e] at hn
          cases hn
        · rw [r.fr a u y m] at hn
          cases hn
theorem Rel.grow {W : Wd} {B : Nat} {G0 H0 G H G' H' : Hp} {env : DEnv} {σ : L2.St} (r : Rel K W B G0 H0 G env σ H) (g : Grow G H G' H') : Rel K W B G0 H0 G' env σ H' :=
  { r.toRW.grow g with len := r.len, slot := fun i e s h1 h2 => slot_grow g (r.slot i e s h1 h2), dis := r.dis }
/-- behind a call that may write at the deck, and at what was lent to it -/
theorem RW.trans {W W' : Wd} {B B' : Nat} {G0 H0 G H G' H' : Hp} (r : RW W B G0 H0 G H) (hk : W'.dk = W.dk) (hs : ∀ a ∈ W'.sh, W.mu a ∨ H0 a = none) (q : RW W' B' G H G' H') : RW W B' G0 H0 G' H' := by
  have gm : ∀ a, W.mu a → G' a = none := fun a m => by
    cases z : G' a with
    | none => rfl
    | some u =>
      obtain ⟨o, e⟩ := W.trk B H a r.inv m
      have := q.pn a u z (r.gm a m)
      rw [e] at this
      cases this
  have nm : ∀ a o, H0 a = some o → ¬ W.mu a → ¬ W'.mu a := fun a o h m m' => by
    rcases m' with m' | m'
    · rw [hk] at m'
      exact m (.inl m')
    · rcases hs a m' with h1 | h1
      · exact m h1
      · rw [h] at h1
        cases h1
  exact {
    g0 := r.g0.trans q.g0
    pub := q.pub
    gm := gm
    inv := ⟨by rw [← hk]; exact q.inv.1, r.inv.2.1, fun a m => by
      obtain ⟨o, e⟩ := r.inv.2.2 a m
      by_cases z : W'.mu a
      · exact W'.trk B' H' a q.inv z
      · exact ⟨o, q.fr a o e z⟩⟩
    fr := fun a o h m => q.fr a o (r.fr a o h m) (nm a o h m)
    pn := fun a o h h0 => by
      cases z : G a with
      | some u => exact r.pn a u z h0
      | none =>
        have hn := q.pn a o h z
        cases y : H0 a with
        | none => rfl
        | some u =>
          by_cases m : W.mu a
          · rw [gm a m] at h
            cases h
          · rw [r.fr a u y m] at hn
            cases hn }
theorem Rel.mo_ndk {W : Wd} {B : Nat} {G0 H0 G H : Hp} {env : DEnv} {σ : L2.St} {i : Nat} {w : Option Nat} {c : SC} {l : Addr} (r : Rel K W B G0 H0 G env σ H) (h : env[i]? = some (.mo w c)) (hs : σ[i]? = some (some (.ref l))) : ¬ W.dk.mu l := by
  obtain ⟨l2, e2, n, o, q⟩ := r.slot i _ _ h hs
  cases e2
  cases w with
  | none => exact fun m => o.2 (.inl m)
  | some j => exact r.inv.2.1 l (List.mem_of_getElem? o)
/-- slots behind such a call: as they were, or the new contents of what was lent to it -/
theorem Rel.after' {W W' : Wd} {B B' : Nat} {G0 H0 G H G' H' : Hp} {env env' : DEnv} {σ : L2.St} (r : Rel K W B G0 H0 G env σ H) (hk : W'.dk = W.dk) (hs : ∀ a ∈ W'.sh, W.mu a ∨ H0 a = none) (q : RW W' B' G H G' H') (hl : env'.length = env.length)
    (he : ∀ (i : Nat) e, env'[i]? = some e → (env[i]? = some e ∧ ∀ w c l, e = .mo w c → σ[i]? = some (some (.ref l)) → l ∉ W'.sh) ∨ ∃ w c c' l, env[i]? = some (.mo w c) ∧ e = .mo w c' ∧ σ[i]? = some (some (.ref l)) ∧ ScOk K G' H' l c') : Rel K W B' G0 H0 G' env' σ H' := by
  have rw' := r.toRW.trans hk hs q
  have gn : ∀ l, G l = none → (∃ o, H l = some o) → G' l = none := fun l n ⟨o, h⟩ => by
    cases z : G' l with
    | none => rfl
    | some u =>
      have := q.pn l u z n
      rw [h] at this
      cases this
  exact { rw' with
    len := hl.trans r.len
    slot := fun i x s h1 h2 => by
      rcases he i x h1 with ⟨e0, hn⟩ | ⟨w, c, c', l, e0, rfl, hs2, hc⟩
      · have h := r.slot i x s e0 h2
        cases x with
        | un => trivial
        | d x =>
          obtain ⟨v, e1, q1⟩ := h
          exact ⟨v, e1, dp_same q.g0 q1⟩
        | hd => exact h
        | «at» _ => trivial
        | mo w c =>
          obtain ⟨l, e1, n, o, q1⟩ := h
          subst e1
          have nm : ¬ W'.mu l := fun m => by
            rcases m with m | m
            · rw [hk] at m
              exact r.mo_ndk e0 h2 m
            · exact hn w c l rfl h2 m
          exact ⟨l, rfl, gn l n (scok_some q1), o, scok_later q.g0 (fun u hu => q.fr l u hu nm) q1⟩
      · obtain ⟨l2, e1, n, o, q1⟩ := r.slot i _ s e0 h2
        subst e1
        rw [hs2] at h2
        cases h2
        exact ⟨l, rfl, gn l n (scok_some q1), o, hc⟩
    dis := fun i j wi ci wj cj l ne h1 h2 h3 => by
      have f : ∀ {n : Nat} {w c}, env'[n]? = some (.mo w c) → ∃ w' c', env[n]? = some (.mo w' c') := fun {n w c} hh => by
        rcases he n _ hh with ⟨e0, _⟩ | ⟨w, c, c', l, e0, _⟩
        · exact ⟨_, _, e0⟩
        · exact ⟨_, _, e0⟩
      obtain ⟨w1, c1, g1⟩ := f h1
      obtain ⟨w2, c2, g2⟩ := f h2
      exact r.dis i j w1 c1 w2 c2 l ne g1 g2 h3 }
/-- behind a call to which nothing was lent -/
theorem Rel.after {W : Wd} {B B' : Nat} {G0 H0 G H G' H' : Hp} {env : DEnv} {σ : L2.St} (r : Rel K W B G0 H0 G env σ H) (q : RW (.of W.dk) B' G H G' H') : Rel K W B' G0 H0 G' env σ H' :=
  r.after' (W' := .of W.dk) rfl (fun a m => by cases m) q rfl fun i e h => .inl ⟨h, fun w c l _ _ m => by cases m⟩
theorem RW.self0 {W : Wd} {B : Nat} {G0 H0 G H : Hp} (r : RW W B G0 H0 G H) : RW (.of W.dk) B G H G H :=
  ⟨Same.refl _, r.pub, fun a m => r.gm a (.inl (of_mu.mp m)), of_inv.mpr r.inv.1, fun _ _ h _ => h, fun a o h h' => by rw [h] at h'; cases h'⟩
theorem RW.le {W : Wd} {B B' : Nat} {G0 H0 G H : Hp} (r : RW W B G0 H0 G H) (h : B' ≤ B) : RW W B' G0 H0 G H := { r with inv := W.low B B' H h r.inv }
theorem Rel.le {W : Wd} {B B' : Nat} {G0 H0 G H : Hp} {env : DEnv} {σ : L2.St} (r : Rel K W B G0 H0 G env σ H) (h : B' ≤ B) : Rel K W B' G0 H0 G env σ H :=
  { r.toRW.le h with len := r.len, slot := r.slot, dis := r.dis }
theorem RW.self {W : Wd} {B : Nat} {G0 H0 G H : Hp} (r : RW W B G0 H0 G H) : RW W B G H G H :=
  ⟨Same.refl _, r.pub, r.gm, r.inv, fun _ _ h _ => h, fun a o h h' => by rw [h] at h'; cases h'⟩
/-- a slot gets data -/
theorem Rel.set_d {W : Wd} {B : Nat} {G0 H0 G H : Hp} {env : DEnv} {σ : L2.St} {i : Nat} {v : V} {x : D} (r : Rel K W B G0 H0 G env σ H) (h : Dr K G v x) : Rel K W B G0 H0 G (env.set i (.d x)) (σ.set i (some v)) H :=
  { r.toRW with
    len := by rw [List.length_set, List.length_set]; exact r.len
    slot := fun j e s h1 h2 => by
      by_cases z : i = j
      · subst z
        by_cases hl : i < env.length
        · rw [List.getElem?_set_self hl] at h1
          rw [List.getElem?_set_self (r.len ▸ hl)] at h2
          cases h1
          cases h2
          exact ⟨v, rfl, h⟩
        · rw [List.getElem?_eq_none (by rw [List.length_set]; omega)] at h1
          cases h1
      · rw [List.getElem?_set_ne z] at h1 h2
        exact r.slot j e s h1 h2
    dis := fun j k wi ci wj cj l ne h1 h2 h3 => by
      have z1 : i ≠ j := fun z => by
        subst z
        by_cases hl : i < env.length
        · rw [List.getElem?_set_self hl] at h1
          cases h1
        · rw [List.getElem?_eq_none (by rw [List.length_set]; omega)] at h1
          cases h1
      have z2 : i ≠ k := fun z => by
        subst z
        by_cases hl : i < env.length
        · rw [List.getElem?_set_self hl] at h2
          cases h2
        · rw [List.getElem?_eq_none (by rw [List.length_set]; omega)] at h2
          cases h2
      rw [List.getElem?_set_ne z1] at h1 h3
      rw [List.getElem?_set_ne z2] at h2 ⊢
      exact r.dis j k wi ci wj cj l ne h1 h2 h3 }
theorem Rel.get_d {W : Wd} {B : Nat} {G0 H0 G H : Hp} {env : DEnv} {σ : L2.St} {i : Nat} {x : D} (r : Rel K W B G0 H0 G env σ H) (h : env[i]? = some (.d x)) : ∃ v, σ[i]? = some (some v) ∧ Dr K G v x := by
  have hl : i < σ.length := by
    rw [← r.len]
    exact (List.getElem?_eq_some_iff.mp h).1
  obtain ⟨v, e, q⟩ := r.slot i _ _ h (List.getElem?_eq_getElem hl)
  exact ⟨v, by rw [List.getElem?_eq_getElem hl, e], q⟩
theorem Rel.get_hd {W : Wd} {B : Nat} {G0 H0 G H : Hp} {env : DEnv} {σ : L2.St} {i : Nat} (r : Rel K W B G0 H0 G env σ H) (h : env[i]? = some .hd) : σ[i]? = some (some W.hv) ∧ W.dk ≠ none := by
  have hl : i < σ.length := by
    rw [← r.len]
    exact (List.getElem?_eq_some_iff.mp h).1
  have e : σ[i] = some W.hv ∧ W.dk ≠ none := r.slot i _ _ h (List.getElem?_eq_getElem hl)
  exact ⟨by rw [List.getElem?_eq_getElem hl, e.1], e.2⟩
theorem Rel.get_own {W : Wd} {B : Nat} {G0 H0 G H : Hp} {env : DEnv} {σ : L2.St} {i : Nat} {xs : List D} (r : Rel K W B G0 H0 G env σ H) (h : env[i]? = some (.own xs)) :
    ∃ l vs, σ[i]? = some (some (.ref l)) ∧ H l = some (.lst vs) ∧ G l = none ∧ H0 l = none ∧ ¬ W.mu l ∧ DrAll K G vs xs := by
  have hl : i < σ.length := by
    rw [← r.len]
    exact (List.getElem?_eq_some_iff.mp h).1
  obtain ⟨l, e, n, o, vs, hv, q⟩ := r.slot i _ _ h (List.getElem?_eq_getElem hl)
  exact ⟨l, vs, by rw [List.getElem?_eq_getElem hl, e], hv, n, o.1, o.2, q⟩
/-- an object that is written, of whomever -/
theorem Rel.get_mo {W : Wd} {B : Nat} {G0 H0 G H : Hp} {env : DEnv} {σ : L2.St} {i : Nat} {w : Option Nat} {c : SC} (r : Rel K W B G0 H0 G env σ H) (h : env[i]? = some (.mo w c)) :
    ∃ l, σ[i]? = some (some (.ref l)) ∧ G l = none ∧ Owns W H0 l w ∧ ScOk K G H l c := by
  have hl : i < σ.length := by
    rw [← r.len]
    exact (List.getElem?_eq_some_iff.mp h).1
  obtain ⟨l, e, q⟩ := r.slot i _ _ h (List.getElem?_eq_getElem hl)
  exact ⟨l, by rw [List.getElem?_eq_getElem hl, e], q⟩
theorem drFs_kv {G : Hp} : ∀ {vs : List (Key × V)} {xs : List (Key × D)}, DrFs K G vs xs → DrKv K G vs (xs.map fun p => (keyD p.1, p.2))
  | _, _, .nil => .nil
  | _, _, .cons h t => .cons h (drFs_kv t)
/-- an object of one's own is published -/
theorem Rel.publishO {W : Wd} {B : Nat} {G0 H0 G H : Hp} {env : DEnv} {σ : L2.St} {i : Nat} {c : SC} {l : Addr} {o : HO} {y : D} (r : Rel K W B G0 H0 G env σ H) (h : env[i]? = some (.mo none c)) (hs : σ[i]? = some (some (.ref l))) (hl : H l = some o) (hg : G l = none) (h0 : H0 l = none) (hm : ¬ W.mu l) (dq : Dr K (upd G l o) (.ref l) y) :
    Rel K W B G0 H0 (upd G l o) (env.set i (.d y)) σ H ∧ Same G (upd G l o) := by
  have eg : Same G (upd G l o) := same_upd hg
  have hil : i < env.length := (List.getElem?_eq_some_iff.mp h).1
  refine ⟨{ g0 := r.g0.trans eg, pub := fun a u e => ?_, gm := fun a m => ?_, inv := r.inv, fr := r.fr, pn := fun a o e e0 => ?_, len := by rw [List.length_set]; exact r.len, slot := fun j e s h1 h2 => ?_, dis := fun j k wi ci wj cj l' ne h1 h2 h3 => ?_ }, eg⟩
  · by_cases z : a = l
    · subst z
      rw [upd_same] at e
      cases e
      exact hl
    · rw [upd_ne z] at e
      exact r.pub a u e
  · by_cases z : a = l
    · subst z
      exact absurd m hm
    · rw [upd_ne z]
      exact r.gm a m
  · by_cases z : a = l
    · subst z
      exact h0
    · rw [upd_ne z] at e
      exact r.pn a o e e0
  · by_cases z : i = j
    · subst z
      rw [List.getElem?_set_self hil] at h1
      cases h1
      rw [hs] at h2
      cases h2
      exact ⟨_, rfl, dq⟩
    · rw [List.getElem?_set_ne z] at h1
      have q := r.slot j e s h1 h2
      cases e with
      | un => trivial
      | d x =>
        obtain ⟨v, e1, q1⟩ := q
        exact ⟨v, e1, dp_same eg q1⟩
      | «at» _ => trivial
      | mo w c =>
        obtain ⟨l2, e1, n2, o2, q1⟩ := q
        refine ⟨l2, e1, ?_, o2, scok_later eg (fun _ h => h) q1⟩
        have ne : l2 ≠ l := fun w => by
          subst w
          subst e1
          exact r.dis i j _ _ _ _ l2 z h h1 hs h2
        rw [upd_ne ne]
        exact n2
      | hd => exact q
  · have z1 : i ≠ j := fun z => by
      subst z
      rw [List.getElem?_set_self hil] at h1
      cases h1
    have z2 : i ≠ k := fun z => by
      subst z
      rw [List.getElem?_set_self hil] at h2
      cases h2
    rw [List.getElem?_set_ne z1] at h1
    rw [List.getElem?_set_ne z2] at h2
    exact r.dis j k wi ci wj cj l' ne h1 h2 h3
/-- an own list is published -/
theorem Rel.publish {W : Wd} {B : Nat} {G0 H0 G H : Hp} {env : DEnv} {σ : L2.St} {i : Nat} {xs : List D} {l : Addr} {vs : List V} (r : Rel K W B G0 H0 G env σ H) (h : env[i]? = some (.own xs)) (hs : σ[i]? = some (some (.ref l))) (hl : H l = some (.lst vs)) (hg : G l = none) (h0 : H0 l = none) (hm : ¬ W.mu l) (hq : DrAll K G vs xs) :
    Rel K W B G0 H0 (upd G l (.lst vs)) (env.set i (.d (.list xs))) σ H ∧ Dr K (upd G l (.lst vs)) (.ref l) (.list xs) ∧ Same G (upd G l (.lst vs)) := by
  have eg : Same G (upd G l (.lst vs)) := same_upd hg
  have dq : Dr K (upd G l (.lst vs)) (.ref l) (.list xs) := .lst upd_same (dpAll_same eg hq)
  exact ⟨(r.publishO h hs hl hg h0 hm dq).1, dq, eg⟩
end
end DL
namespace DL
open PySem PySem.Spec PyProof.Rows L2
/-! ### readings of data -/
abbrev ME := DEnv → (D → DEnv → Prop) → Prop
abbrev MT := DEnv → (Bool → DEnv → Prop) → Prop
abbrev MA := DEnv → (List EV → DEnv → Prop) → Prop
abbrev MF := DEnv → (List D → DEnv → Prop) → Prop
def ArgOk (K : PySem.W.Frag) (k : Wk) (G : Hp) : EV → V → Prop
  | .d x, v => Dr K G v x
  | .hd, v => v = k.hv ∧ k ≠ none
  | _, _ => False
inductive ArgsOk (K : PySem.W.Frag) (k : Wk) (G : Hp) : List V → List EV → Prop
  | nil : ArgsOk K k G [] []
  | cons {v : V} {vs : List V} {a : EV} {as : List EV} : ArgOk K k G a v → ArgsOk K k G vs as → ArgsOk K k G (v :: vs) (a :: as)
def tD (K : PySem.W.Frag) (n : Nat) (m : ME) : TE := fun σ H Q => ∃ (W : Wd) (B : Nat) (G0 H0 G : Hp) (env : DEnv) (P : D → DEnv → Prop), Rel K W (B + n) G0 H0 G env σ H ∧ m env P ∧
  ∀ x env' v G' H', P x env' → Same G G' → Rel K W B G0 H0 G' env' σ H' → Dr K G' v x → Q v H'
def tDT (K : PySem.W.Frag) (n : Nat) (m : MT) : TT := fun σ H Q => ∃ (W : Wd) (B : Nat) (G0 H0 G : Hp) (env : DEnv) (P : Bool → DEnv → Prop), Rel K W (B + n) G0 H0 G env σ H ∧ m env P ∧
  ∀ b env' G' H', P b env' → Same G G' → Rel K W B G0 H0 G' env' σ H' → Q b H'
/-- an argument list: the handle's letter W is handed on -/
def tA (K : PySem.W.Frag) (n : Nat) (m : MA) : TA := fun σ H Q => ∃ (W : Wd) (B : Nat) (G0 H0 G : Hp) (env : DEnv) (P : List EV → DEnv → Prop), Rel K W (B + n) G0 H0 G env σ H ∧ m env P ∧
  ∀ as env' vs G' H', P as env' → Same G G' → Rel K W B G0 H0 G' env' σ H' → ArgsOk K W.dk G' vs as → Q vs H'
def FreshAt (K : PySem.W.Frag) (W : Wd) (H0 G : Hp) (env : DEnv) (σ : L2.St) (H : Hp) (p : Addr) (xs : List D) : Prop :=
  ∃ vs, H p = some (.lst vs) ∧ G p = none ∧ H0 p = none ∧ ¬ W.mu p ∧ (∀ (i : Nat) l w c, env[i]? = some (.mo w c) → σ[i]? = some (some (.ref l)) → l ≠ p) ∧ DrAll K G vs xs
def tF (K : PySem.W.Frag) (n : Nat) (m : MF) : TE := fun σ H Q => ∃ (W : Wd) (B : Nat) (G0 H0 G : Hp) (env : DEnv) (P : List D → DEnv → Prop), Rel K W (B + n) G0 H0 G env σ H ∧ m env P ∧
  ∀ xs env' p G' H', P xs env' → Same G G' → Rel K W B G0 H0 G' env' σ H' → FreshAt K W H0 G' env' σ H' p xs → Q (.ref p) H'
abbrev GE (X : Cx) (e : Expr) (n : Nat) (m : ME) : Prop := PE X e (tD X.K n m)
abbrev GT (X : Cx) (e : Expr) (n : Nat) (m : MT) : Prop := PT X e (tDT X.K n m)
abbrev GW (X : Cx) (e : Expr) (n : Nat) (m : MT) : Prop := PW X e (tDT X.K n m)
abbrev GA (X : Cx) (es : List Expr) (n : Nat) (m : MA) : Prop := PA X es (tA X.K n m)
abbrev GF (X : Cx) (e : Expr) (n : Nat) (m : MF) : Prop := PE X e (tF X.K n m)
theorem pe_imp {X : Cx} {e : Expr} {t t' : TE} (h : PE X e t) (q : ∀ σ H Q, t' σ H Q → t σ H Q) : PE X e t' := ⟨fun pins s σ H Q I z => h.run pins s σ H Q I (q σ H Q z)⟩
theorem pt_imp {X : Cx} {e : Expr} {t t' : TT} (h : PT X e t) (q : ∀ σ H Q, t' σ H Q → t σ H Q) : PT X e t' := ⟨fun pins s σ H Q I z => h.run pins s σ H Q I (q σ H Q z)⟩
theorem pw_imp {X : Cx} {e : Expr} {t t' : TT} (h : PW X e t) (q : ∀ σ H Q, t' σ H Q → t σ H Q) : PW X e t' := ⟨fun w pins s σ H Q I z => h.run w pins s σ H Q I (q σ H Q z)⟩
theorem pa_imp {X : Cx} {es : List Expr} {t t' : TA} (h : PA X es t) (q : ∀ σ H Q, t' σ H Q → t σ H Q) : PA X es t' := ⟨fun p pins s σ H Q I z => h.run p pins s σ H Q I (q σ H Q z)⟩
theorem ps_imp {X : Cx} {st : Stmt} {t t' : TS} (h : PS X st t) (q : ∀ D σ H, t' D σ H → t D σ H) : PS X st t' := ⟨fun pins s σ H D I z => h.run pins s σ H D I (q D σ H z)⟩
theorem pss_imp {X : Cx} {st : List Stmt} {t t' : TS} (h : PSs X st t) (q : ∀ D σ H, t' D σ H → t D σ H) : PSs X st t' := ⟨fun pins s σ H D I z => h.run pins s σ H D I (q D σ H z)⟩
/-! ### the data-level words -/
def mVar (i : Nat) : ME := fun env P => match env[i]? with
  | some (.d x) => P x env
  | some (.mo none (.lst xs)) => P (.list xs) (env.set i (.d (.list xs)))
  | some (.mo none (.dic kvs)) => P (.dict (kvs.map fun p => (keyD p.1, p.2))) (env.set i (.d (.dict (kvs.map fun p => (keyD p.1, p.2)))))
  | _ => False
def mC (x : D) : ME := fun env P => P x env
def mOp (f : D → D → (D → Prop) → Prop) (ma mb : ME) : ME := fun env P => ma env fun x e1 => mb e1 fun y e2 => f x y fun z => P z e2
def mUn (f : D → (D → Prop) → Prop) (ma : ME) : ME := fun env P => ma env fun x e1 => f x fun z => P z e1
def mCmp (f : D → D → (Bool → Prop) → Prop) (ma mb : ME) : ME := fun env P => ma env fun x e1 => mb e1 fun y e2 => f x y fun b => P (.bool b) e2
def mCmpT (f : D → D → (Bool → Prop) → Prop) (ma mb : ME) : MT := fun env P => ma env fun x e1 => mb e1 fun y e2 => f x y fun b => P b e2
def mChain (f g : D → D → (Bool → Prop) → Prop) (ma mb mc : ME) : ME := fun env P => ma env fun x e1 => mb e1 fun y e2 => f x y fun b => match b with
  | true => mc e2 fun z e3 => g y z fun c => P (.bool c) e3
  | false => P (.bool false) e2
def mChainT (f g : D → D → (Bool → Prop) → Prop) (ma mb mc : ME) : MT := fun env P => ma env fun x e1 => mb e1 fun y e2 => f x y fun b => match b with
  | true => mc e2 fun z e3 => g y z fun c => P c e3
  | false => P false e2
/-- a value that is a truth, as a test -/
def mTest (ma : ME) : MT := fun env P => ma env fun x e1 => match x with
  | .bool b => P b e1
  | _ => False
def truD : D → (Bool → Prop) → Prop
  | .none, P => P false
  | .bool b, P => P b
  | .int i, P => P (i != 0)
  | .str z, P => z.length ≤ sizeLine ∧ P ((z.length : Int) != 0)
  | .list xs, P => P (!xs.isEmpty)
  | .tuple xs, P => P (!xs.isEmpty)
  | .dict _, _ => False
def mTru (ma : ME) : MT := fun env P => ma env fun x e1 => truD x fun b => P b e1
def mAndT (a b : MT) : MT := fun env P => a env fun k e1 => match k with
  | true => b e1 P
  | false => P false e1
def mOrT (a b : MT) : MT := fun env P => a env fun k e1 => match k with
  | true => P true e1
  | false => b e1 P
def mNotT (a : MT) : MT := fun env P => a env fun k e1 => P (!k) e1
def mAndV (a b : ME) : ME := fun env P => a env fun x e1 => match x with
  | .bool true => b e1 P
  | .bool false => P (.bool false) e1
  | _ => False
def mOrV (a b : ME) : ME := fun env P => a env fun x e1 => match x with
  | .bool true => P (.bool true) e1
  | .bool false => b e1 P
  | _ => False
def mNotV (a : ME) : ME := fun env P => a env fun x e1 => match x with
  | .bool k => P (.bool (!k)) e1
  | _ => False
def mIf (t : MT) (a b : ME) : ME := fun env P => t env fun k e1 => match k with
  | true => a e1 P
  | false => b e1 P
def mNil : MA := fun env P => P [] env
def mCons (a : ME) (r : MA) : MA := fun env P => a env fun x e1 => r e1 fun as e2 => P (.d x :: as) e2
def mConsH (i : Nat) (r : MA) : MA := fun env P => match env[i]? with
  | some .hd => r env fun as e2 => P (.hd :: as) e2
  | _ => False
/-- an object that is written, handed on -/
def mConsM (i : Nat) (r : MA) : MA := fun env P => match env[i]? with
  | some (.mo _ _) => r env fun as e2 => P (.at i :: as) e2
  | _ => False
def dats : List EV → Option (List D)
  | [] => some []
  | .d x :: r => (dats r).map (x :: ·)
  | _ :: _ => none
def mDats (as : List EV) (f : List D → Prop) : Prop := match dats as with
  | some ds => f ds
  | none => False
def mTup (a : MA) : ME := fun env P => a env fun as e1 => mDats as fun ds => ds.length ≤ sizeLine ∧ P (.tuple ds) e1
def mLst (a : MA) : MF := fun env P => a env fun as e1 => mDats as fun ds => ds.length ≤ sizeLine ∧ P ds e1
def mPubF (f : MF) : ME := fun env P => f env fun ds e1 => P (.list ds) e1
/-- a built-in's call on data -/
def mCB (f : List D → (D → Prop) → Prop) (a : MA) : ME := fun env P => a env fun as e1 => mDats as fun ds => f ds fun z => P z e1
/-- a def's call -/
def mCall (sp : List EV → (D → Prop) → Prop) (a : MA) : ME := fun env P => a env fun as e1 => sp as fun z => P z e1
/-- a method of a built-in type -/
def mBM (f : D → List D → (D → Prop) → Prop) (o : ME) (a : MA) : ME := fun env P => o env fun x e1 => a e1 fun as e2 => mDats as fun ds => f x ds fun z => P z e2
theorem dats_ok {K : PySem.W.Frag} {k : Wk} {G : Hp} : ∀ {vs : List V} {as : List EV} {ds : List D}, ArgsOk K k G vs as → dats as = some ds → DrAll K G vs ds
  | _, _, _, .nil, h => by
    cases h
    exact .nil
  | _, _, _, .cons (a := .d x) a t, h => by
    simp only [dats, Option.map_eq_some_iff] at h
    obtain ⟨r, h1, rfl⟩ := h
    exact .cons a (dats_ok t h1)
  | _, _, _, .cons (a := .hd) a t, h => by cases h
  | _, _, _, .cons (a := .un) a t, h => by cases h
  | _, _, _, .cons (a := .mo _ _) a t, h => by cases h
  | _, _, _, .cons (a := .at _) a t, h => by cases h
theorem mDats_ok {as : List EV} {f : List D → Prop} (h : mDats as f) : ∃ ds, dats as = some ds ∧ f ds := by
  unfold mDats at h
  split at h
  · exact ⟨_, by assumption, h⟩
  · exact h.elim
theorem args_same {K : PySem.W.Frag} {k : Wk} {G G' : Hp} (e : Same G G') : ∀ {vs : List V} {as : List EV}, ArgsOk K k G vs as → ArgsOk K k G' vs as
  | _, _, .nil => .nil
  | _, _, .cons (a := .d x) a t => .cons (dp_same (v := _) e a) (args_same e t)
  | _, _, .cons (a := .hd) a t => .cons (a := .hd) a (args_same e t)
  | _, _, .cons (a := .un) a t => a.elim
  | _, _, .cons (a := .mo _ _) a t => a.elim
  | _, _, .cons (a := .at _) a t => a.elim
/-! ### rules by values -/
def rD2 (K : PySem.W.Frag) (f : D → D → (D → Prop) → Prop) : R2 := fun x y H Q => ∃ (G : Hp) (dx dy : D) (P : D → Prop), Same G H ∧ Dr K G x dx ∧ Dr K G y dy ∧ f dx dy P ∧
  ∀ z v G' H', P z → Grow G H G' H' → Dr K G' v z → Q v H'
def rDC2 (K : PySem.W.Frag) (f : D → D → (Bool → Prop) → Prop) : R2 := fun x y H Q => ∃ (G : Hp) (dx dy : D) (P : Bool → Prop), Same G H ∧ Dr K G x dx ∧ Dr K G y dy ∧ f dx dy P ∧
  ∀ b, P b → Q (.bl b) H
def rD1 (K : PySem.W.Frag) (f : D → (D → Prop) → Prop) : V → Hp → VK → Prop := fun x H Q => ∃ (G : Hp) (dx : D) (P : D → Prop), Same G H ∧ Dr K G x dx ∧ f dx P ∧
  ∀ z v G' H', P z → Grow G H G' H' → Dr K G' v z → Q v H'
def rDC (K : PySem.W.Frag) (f : List D → (D → Prop) → Prop) : List V → Hp → VK → Prop := fun xs H Q => ∃ (G : Hp) (ds : List D) (P : D → Prop), Same G H ∧ DrAll K G xs ds ∧ f ds P ∧
  ∀ z v G' H', P z → Grow G H G' H' → Dr K G' v z → Q v H'
def rDM (K : PySem.W.Frag) (f : D → List D → (D → Prop) → Prop) : V → List V → Hp → VK → Prop := fun o xs H Q => ∃ (G : Hp) (x : D) (ds : List D) (P : D → Prop), Same G H ∧ Dr K G o x ∧ DrAll K G xs ds ∧ f x ds P ∧
  ∀ z v G' H', P z → Grow G H G' H' → Dr K G' v z → Q v H'
section
variable {X : Cx} {a b c e o : Expr} {es : List Expr} {pos p : Pos} {ma mb mc me : ME} {mt mu : MT} {na nb nc ne n1 n2 : Nat}
theorem ge_var (i : Nat) {x : Str} (hN : X.N[i]? = some x := by rfl) (hv : Vis X.env.scope x := by first | exact Or.inl rfl | exact Or.inr (Or.inl rfl) | exact Or.inr (Or.inr rfl)) (hd : (x == ("__debug__" : Str)) = false := by decide)
    (hcd : (x == ("__classdict__" : Str)) = false := by decide) : GE X (.Name x pos) 0 (mVar i) := pe_imp (pe_var hN hv hd hcd) fun σ H Q h => by
  obtain ⟨W, B, G0, H0, G, env, P, R, hm, q⟩ := h
  unfold mVar at hm
  split at hm
  · obtain ⟨v, e1, q1⟩ := R.get_d (by assumption)
    exact ⟨v, e1, q _ _ _ _ _ hm (Same.refl _) R q1⟩
  · obtain ⟨l, vs, e1, hl, hg, h0, hmu, hq⟩ := R.get_own (by assumption)
    obtain ⟨R2, d2, s2⟩ := R.publish (by assumption) e1 hl hg h0 hmu hq
    exact ⟨_, e1, q _ _ _ _ _ hm s2 R2 d2⟩
  · obtain ⟨l, e1, hg, ho, us, hl, hq⟩ := R.get_mo (by assumption)
    have eg := same_upd (o := .dK us) hg
    obtain ⟨R2, s2⟩ := R.publishO (o := .dK us) (by assumption) e1 hl hg ho.1 ho.2 (Dr.dic upd_same (drFs_kv (drFs_same eg hq)))
    exact ⟨_, e1, q _ _ _ _ _ hm s2 R2 (Dr.dic upd_same (drFs_kv (drFs_same eg hq)))⟩
  · exact hm.elim
theorem ge_c {x : D} {v : V} (h : PE X e (tC v)) (hd : ∀ G, Dr X.K G v x) : GE X e 0 (mC x) := pe_imp h fun σ H Q h => by
  obtain ⟨W, B, G0, H0, G, env, P, R, hm, q⟩ := h
  exact q _ _ _ _ _ hm (Same.refl _) R (hd G)
theorem ge_int {i : Int} {j : Nat} : GE X (.Constant (.int i) j pos) 0 (mC (.int i)) := ge_c pe_int fun _ => .int _
theorem ge_bl {b : Bool} {j : Nat} : GE X (.Constant (.bool b) j pos) 0 (mC (.bool b)) := ge_c pe_bl fun _ => .bl _
theorem ge_str {z : Str} {j : Nat} : GE X (.Constant (.str z) j pos) 0 (mC (.str z)) := ge_c pe_str fun _ => .str _
theorem ge_non {j : Nat} : GE X (.Constant .none j pos) 0 (mC .none) := ge_c pe_non fun _ => .non
theorem ge_glob {x : Str} {v : V} {u : Value} {y : D} (hg : Gl X x) (hm : X.mg x = some u) (r : RelV v u) (hd : ∀ G, Dr X.K G v y) (hdb : (x == ("__debug__" : Str)) = false := by decide) : GE X (.Name x pos) 0 (mC y) := ge_c (pe_glob hg hm r hdb) hd
/-- a two-place operation -/
theorem two_ok {f : D → D → (D → Prop) → Prop} {σ : L2.St} {H : Hp} {Q : VK} {r : R2} (hr : ∀ x y H Q, rD2 X.K f x y H Q → r x y H Q) (h : tD X.K (na + nb) (mOp f ma mb) σ H Q) : tOp r (tD X.K na ma) (tD X.K nb mb) σ H Q := by
  obtain ⟨W, B, G0, H0, G, env, P, R, hm, q⟩ := h
  refine ⟨W, B + nb, G0, H0, G, env, _, R.le (by omega), hm, fun x e1 v G1 H1 p1 s1 R1 d1 => ⟨W, _, G0, H0, G1, e1, _, R1, p1, fun y e2 u G2 H2 p2 s2 R2 d2 => hr _ _ _ _ ⟨G2, x, y, _, R2.pub, dp_same s2 d1, d2, p2, fun z w G3 H3 p3 g3 d3 => ?_⟩⟩⟩
  exact q z e2 w G3 H3 p3 ((s1.trans s2).trans g3.eg) (R2.grow g3) d3
theorem ge_op {op : Operator} {f : D → D → (D → Prop) → Prop} (ho : OpR X (binaryOp op) (rD2 X.K f)) (ha : GE X a na ma) (hb : GE X b nb mb) : GE X (.BinOp a op b pos) (na + nb) (mOp f ma mb) :=
  pe_imp (pe_op ho ha hb) fun σ H Q h => two_ok (fun _ _ _ _ z => z) h
theorem ge_ix {f : D → D → (D → Prop) → Prop} (ho : IxR X (rD2 X.K f)) (ha : GE X a na ma) (hb : GE X b nb mb) (hs : PlainIx b) : GE X (.Subscript a b pos) (na + nb) (mOp f ma mb) :=
  pe_imp (pe_ix ho ha hb hs) fun σ H Q h => two_ok (fun _ _ _ _ z => z) h
theorem cmp_ok {f : D → D → (Bool → Prop) → Prop} {σ : L2.St} {H : Hp} {Q : VK} (h : tD X.K (na + nb) (mCmp f ma mb) σ H Q) : tOp (rDC2 X.K f) (tD X.K na ma) (tD X.K nb mb) σ H Q := by
  obtain ⟨W, B, G0, H0, G, env, P, R, hm, q⟩ := h
  refine ⟨W, B + nb, G0, H0, G, env, _, R.le (by omega), hm, fun x e1 v G1 H1 p1 s1 R1 d1 => ⟨W, _, G0, H0, G1, e1, _, R1, p1, fun y e2 u G2 H2 p2 s2 R2 d2 => ⟨G2, x, y, _, R2.pub, dp_same s2 d1, d2, p2, fun b p3 => ?_⟩⟩⟩
  exact q _ e2 _ G2 H2 p3 (s1.trans s2) R2 (.bl b)
theorem cmpT_ok {f : D → D → (Bool → Prop) → Prop} {σ : L2.St} {H : Hp} {Q : Bool → Hp → Prop} (h : tDT X.K (na + nb) (mCmpT f ma mb) σ H Q) : tTest (tOp (rDC2 X.K f) (tD X.K na ma) (tD X.K nb mb)) σ H Q := by
  obtain ⟨W, B, G0, H0, G, env, P, R, hm, q⟩ := h
  refine ⟨W, B + nb, G0, H0, G, env, _, R.le (by omega), hm, fun x e1 v G1 H1 p1 s1 R1 d1 => ⟨W, _, G0, H0, G1, e1, _, R1, p1, fun y e2 u G2 H2 p2 s2 R2 d2 => ⟨G2, x, y, _, R2.pub, dp_same s2 d1, d2, p2, fun b p3 => ⟨b, rfl, ?_⟩⟩⟩⟩
  exact q _ e2 G2 H2 p3 (s1.trans s2) R2
theorem ge_cmp {op : CmpOp} {f : D → D → (Bool → Prop) → Prop} (ho : OpR X (compareOp op) (rDC2 X.K f)) (ha : GE X a na ma) (hb : GE X b nb mb) (hm : behindInMarks op b = false) : GE X (.Compare a [op] [b] pos) (na + nb) (mCmp f ma mb) :=
  pe_imp (pe_cmpR ho ha hb hm) fun σ H Q h => cmp_ok h
theorem gt_cmp {op : CmpOp} {f : D → D → (Bool → Prop) → Prop} (ho : OpR X (compareOp op) (rDC2 X.K f)) (ha : GE X a na ma) (hb : GE X b nb mb) (hm : behindInMarks op b = false) : GT X (.Compare a [op] [b] pos) (na + nb) (mCmpT f ma mb) :=
  pt_imp (pt_cmpR ho ha hb hm) fun σ H Q h => cmpT_ok h
theorem ge_un {op : UnaryOp} {f : D → (D → Prop) → Prop} (ho : UnR X (unaryOp op) (rD1 X.K f)) (ha : GE X a na ma) : GE X (.UnaryOp op a pos) na (mUn f ma) :=
  pe_imp (pe_un ho ha) fun σ H Q h => by
    obtain ⟨W, B, G0, H0, G, env, P, R, hm, q⟩ := h
    refine ⟨W, B, G0, H0, G, env, _, R, hm, fun x e1 v G1 H1 p1 s1 R1 d1 => ⟨G1, x, _, R1.pub, d1, p1, fun z w G3 H3 p3 g3 d3 => ?_⟩⟩
    exact q z e1 w G3 H3 p3 (s1.trans g3.eg) (R1.grow g3) d3
theorem gt_test (ha : GE X a na ma) (hp : PT X a (tTest (tD X.K na ma))) : GT X a na (mTest ma) := pt_imp hp fun σ H Q h => by
  obtain ⟨W, B, G0, H0, G, env, P, R, hm, q⟩ := h
  refine ⟨W, B, G0, H0, G, env, _, R, hm, fun x e1 v G1 H1 p1 s1 R1 d1 => ?_⟩
  cases x with
  | bool b =>
    cases dp_bl d1
    exact ⟨b, rfl, q b e1 G1 H1 p1 s1 R1⟩
  | _ => exact False.elim p1
theorem gt_and (ha : GT X a na mt) (hb : GW X (.BoolOp .And (b :: es) pos) nb mu) : GW X (.BoolOp .And (a :: b :: es) pos) (na + nb) (mAndT mt mu) := pw_imp (pw_and ha hb) fun σ H Q h => by
  obtain ⟨W, B, G0, H0, G, env, P, R, hm, q⟩ := h
  refine ⟨W, B + nb, G0, H0, G, env, _, R.le (by omega), hm, fun k e1 G1 H1 p1 s1 R1 => ?_⟩
  cases k with
  | true =>
    refine iteT ⟨W, _, G0, H0, G1, e1, _, R1, p1, fun b e2 G2 H2 p2 s2 R2 => q b e2 G2 H2 p2 (s1.trans s2) R2⟩
  | false => exact iteF (q false e1 G1 H1 p1 s1 (R1.le (by omega)))
theorem gt_or (ha : GT X a na mt) (hb : GW X (.BoolOp .Or (b :: es) pos) nb mu) : GW X (.BoolOp .Or (a :: b :: es) pos) (na + nb) (mOrT mt mu) := pw_imp (pw_or ha hb) fun σ H Q h => by
  obtain ⟨W, B, G0, H0, G, env, P, R, hm, q⟩ := h
  refine ⟨W, B + nb, G0, H0, G, env, _, R.le (by omega), hm, fun k e1 G1 H1 p1 s1 R1 => ?_⟩
  cases k with
  | true => exact iteT (q true e1 G1 H1 p1 s1 (R1.le (by omega)))
  | false => exact iteF ⟨W, _, G0, H0, G1, e1, _, R1, p1, fun b e2 G2 H2 p2 s2 R2 => q b e2 G2 H2 p2 (s1.trans s2) R2⟩
theorem gt_not (ha : GT X a na mt) : GT X (.UnaryOp .Not a pos) na (mNotT mt) := pt_imp (pt_not ha) fun σ H Q h => by
  obtain ⟨W, B, G0, H0, G, env, P, R, hm, q⟩ := h
  exact ⟨W, B, G0, H0, G, env, _, R, hm, fun k e1 G1 H1 p1 s1 R1 => q _ e1 G1 H1 p1 s1 R1⟩
end
end DL
namespace DL
open PySem PySem.Spec PyProof.Rows L2
section
variable {X : Cx} {a b c e o : Expr} {es : List Expr} {pos p : Pos} {ma mb mc me : ME} {mt mu : MT} {m1 m2 : MA} {na nb nc ne nt n1 n2 no : Nat}
theorem gt_val (ha : GE X a na ma) (he : ∀ whole, isTrue a X.env whole = (do let v ← whole; standAt a.pos; holding [v] (truthy v)) := by intro _; rfl) : GT X a na (mTest ma) := pt_imp (pt_val ha he) fun σ H Q h => by
  obtain ⟨W, B, G0, H0, G, env, P, R, hm, q⟩ := h
  refine ⟨W, B, G0, H0, G, env, _, R, hm, fun x e1 v G1 H1 p1 s1 R1 d1 => ?_⟩
  cases x with
  | bool b =>
    cases dp_bl d1
    exact ⟨b, rfl, q b e1 G1 H1 p1 s1 R1⟩
  | _ => exact False.elim p1
theorem tru_v {K : PySem.W.Frag} {G H : Hp} {v : V} {x : D} {P : Bool → Prop} (s : Same G H) (d : Dr K G v x) (h : truD x P) : ∃ k, TruV K v H k ∧ P k := by
  cases x with
  | none => cases dp_non d; exact ⟨_, rfl, h⟩
  | bool b => cases dp_bl d; exact ⟨_, rfl, h⟩
  | int i => cases dp_int d; exact ⟨_, rfl, h⟩
  | str z => cases dp_str d; exact ⟨_, ⟨h.1, rfl⟩, h.2⟩
  | list xs =>
    obtain ⟨a, vs, rfl, h1, h2⟩ := dp_lst d
    refine ⟨_, .inl ⟨vs, SqL.of (s _ _ h1), rfl⟩, ?_⟩
    have e : (!vs.isEmpty) = !xs.isEmpty := by
      cases h2 <;> rfl
    rw [e]
    exact h
  | tuple xs =>
    obtain ⟨a, vs, rfl, h1, h2⟩ := dp_tup d
    refine ⟨_, .inr (.inl ⟨vs, same_sqT s h1, rfl⟩), ?_⟩
    have e : (!vs.isEmpty) = !xs.isEmpty := by
      cases h2 <;> rfl
    rw [e]
    exact h
  | dict _ => exact h.elim
theorem gt_tru (ha : GE X a na ma) (he : ∀ whole, isTrue a X.env whole = (do let v ← whole; standAt a.pos; holding [v] (truthy v)) := by intro _; rfl) : GT X a na (mTru ma) := pt_imp (pt_truth ha he) fun σ H Q h => by
  obtain ⟨W, B, G0, H0, G, env, P, R, hm, q⟩ := h
  refine ⟨W, B, G0, H0, G, env, _, R, hm, fun x e1 v G1 H1 p1 s1 R1 d1 => ?_⟩
  obtain ⟨k, h1, h2⟩ := tru_v R1.pub d1 p1
  exact ⟨k, h1, q k e1 G1 H1 h2 s1 R1⟩
theorem ge_andV (ha : GE X a na ma) (hb : GE X (.BoolOp .And (b :: es) pos) nb mb) : GE X (.BoolOp .And (a :: b :: es) pos) (na + nb) (mAndV ma mb) := pe_imp (pe_and ha hb) fun σ H Q h => by
  obtain ⟨W, B, G0, H0, G, env, P, R, hm, q⟩ := h
  refine ⟨W, B + nb, G0, H0, G, env, _, R.le (by omega), hm, fun x e1 v G1 H1 p1 s1 R1 d1 => ?_⟩
  cases x with
  | bool k =>
    cases dp_bl d1
    refine ⟨k, rfl, ?_⟩
    cases k with
    | true => exact iteT ⟨W, _, G0, H0, G1, e1, _, R1, p1, fun y e2 u G2 H2 p2 s2 R2 d2 => q y e2 u G2 H2 p2 (s1.trans s2) R2 d2⟩
    | false => exact iteF (q _ e1 _ G1 H1 p1 s1 (R1.le (by omega)) (.bl false))
  | _ => exact False.elim p1
theorem ge_orV (ha : GE X a na ma) (hb : GE X (.BoolOp .Or (b :: es) pos) nb mb) : GE X (.BoolOp .Or (a :: b :: es) pos) (na + nb) (mOrV ma mb) := pe_imp (pe_or ha hb) fun σ H Q h => by
  obtain ⟨W, B, G0, H0, G, env, P, R, hm, q⟩ := h
  refine ⟨W, B + nb, G0, H0, G, env, _, R.le (by omega), hm, fun x e1 v G1 H1 p1 s1 R1 d1 => ?_⟩
  cases x with
  | bool k =>
    cases dp_bl d1
    refine ⟨k, rfl, ?_⟩
    cases k with
    | true => exact iteT (q _ e1 _ G1 H1 p1 s1 (R1.le (by omega)) (.bl true))
    | false => exact iteF ⟨W, _, G0, H0, G1, e1, _, R1, p1, fun y e2 u G2 H2 p2 s2 R2 d2 => q y e2 u G2 H2 p2 (s1.trans s2) R2 d2⟩
  | _ => exact False.elim p1
theorem ge_notV (ha : GE X a na ma) : GE X (.UnaryOp .Not a pos) na (mNotV ma) := pe_imp (pe_not ha) fun σ H Q h => by
  obtain ⟨W, B, G0, H0, G, env, P, R, hm, q⟩ := h
  refine ⟨W, B, G0, H0, G, env, _, R, hm, fun x e1 v G1 H1 p1 s1 R1 d1 => ?_⟩
  cases x with
  | bool k =>
    cases dp_bl d1
    exact ⟨k, rfl, q _ e1 _ G1 H1 p1 s1 R1 (.bl _)⟩
  | _ => exact False.elim p1
theorem ge_if (ht : GT X c nt mt) (ha : GE X a na ma) (hb : GE X b nb mb) : GE X (.IfExp c a b pos) (nt + (na + nb)) (mIf mt ma mb) := pe_imp (pe_ifExp ht ha hb) fun σ H Q h => by
  obtain ⟨W, B, G0, H0, G, env, P, R, hm, q⟩ := h
  refine ⟨W, B + (na + nb), G0, H0, G, env, _, R.le (by omega), hm, fun k e1 G1 H1 p1 s1 R1 => ?_⟩
  cases k with
  | true => exact iteT ⟨W, B + nb, G0, H0, G1, e1, _, R1.le (by omega), p1, fun y e2 u G2 H2 p2 s2 R2 d2 => q y e2 u G2 H2 p2 (s1.trans s2) (R2.le (by omega)) d2⟩
  | false => exact iteF ⟨W, B + na, G0, H0, G1, e1, _, R1.le (by omega), p1, fun y e2 u G2 H2 p2 s2 R2 d2 => q y e2 u G2 H2 p2 (s1.trans s2) (R2.le (by omega)) d2⟩
theorem ge_chain {op op' : CmpOp} {f g : D → D → (Bool → Prop) → Prop} (ho : OpR X (compareOp op) (rDC2 X.K f)) (ho' : OpR X (compareOp op') (rDC2 X.K g)) (ha : GE X a na ma) (hb : GE X b nb mb) (hc : GE X c nc mc)
    (hm : lastMarks [op, op'] [b, c] = false := by with_unfolding_all rfl) : GE X (.Compare a [op, op'] [b, c] pos) (na + (nb + nc)) (mChain f g ma mb mc) := pe_imp (pe_chain ho ho' ha hb hc hm) fun σ H Q h => by
  obtain ⟨W, B, G0, H0, G, env, P, R, hm, q⟩ := h
  refine ⟨W, B + (nb + nc), G0, H0, G, env, _, R.le (by omega), hm, fun x e1 v G1 H1 p1 s1 R1 d1 => ⟨W, B + nc, G0, H0, G1, e1, _, R1.le (by omega), p1, fun y e2 u G2 H2 p2 s2 R2 d2 => ⟨G2, x, y, _, R2.pub, dp_same s2 d1, d2, p2, fun k p3 => ⟨k, rfl, ?_⟩⟩⟩⟩
  cases k with
  | true => exact iteT ⟨W, _, G0, H0, G2, e2, _, R2, p3, fun z e3 w G3 H3 p4 s3 R3 d3 => ⟨G3, y, z, _, R3.pub, dp_same s3 d2, d3, p4, fun k p5 => q _ e3 _ G3 H3 p5 ((s1.trans s2).trans s3) R3 (.bl k)⟩⟩
  | false => exact iteF (q _ e2 _ G2 H2 p3 (s1.trans s2) (R2.le (by omega)) (.bl false))
theorem gt_chain {op op' : CmpOp} {f g : D → D → (Bool → Prop) → Prop} (ho : OpR X (compareOp op) (rDC2 X.K f)) (ho' : OpR X (compareOp op') (rDC2 X.K g)) (ha : GE X a na ma) (hb : GE X b nb mb) (hc : GE X c nc mc)
    (hm : lastMarks [op, op'] [b, c] = false := by with_unfolding_all rfl) : GT X (.Compare a [op, op'] [b, c] pos) (na + (nb + nc)) (mChainT f g ma mb mc) := pt_imp (pt_chain ho ho' ha hb hc hm) fun σ H Q h => by
  obtain ⟨W, B, G0, H0, G, env, P, R, hm, q⟩ := h
  refine ⟨W, B + (nb + nc), G0, H0, G, env, _, R.le (by omega), hm, fun x e1 v G1 H1 p1 s1 R1 d1 => ⟨W, B + nc, G0, H0, G1, e1, _, R1.le (by omega), p1, fun y e2 u G2 H2 p2 s2 R2 d2 => ⟨G2, x, y, _, R2.pub, dp_same s2 d1, d2, p2, fun k p3 => ⟨k, rfl, ?_⟩⟩⟩⟩
  cases k with
  | true => exact iteT ⟨W, _, G0, H0, G2, e2, _, R2, p3, fun z e3 w G3 H3 p4 s3 R3 d3 => ⟨G3, y, z, _, R3.pub, dp_same s3 d2, d3, p4, fun k p5 => ⟨k, rfl, q _ e3 G3 H3 p5 ((s1.trans s2).trans s3) R3⟩⟩⟩
  | false => exact iteF ⟨false, rfl, q _ e2 G2 H2 p3 (s1.trans s2) (R2.le (by omega))⟩
/-! ### arguments, displays, calls -/
theorem ga_nil : GA X [] 0 mNil := pa_imp pa_nil fun σ H Q h => by
  obtain ⟨W, B, G0, H0, G, env, P, R, hm, q⟩ := h
  exact q _ _ _ _ _ hm (Same.refl _) R .nil
theorem ga_cons (ha : GE X e ne me) (hr : GA X es n1 m1) (hs : starEach (e :: es) X.env = (false, eval e X.env) :: starEach es X.env := by rfl) : GA X (e :: es) (ne + n1) (mCons me m1) := pa_imp (pa_cons ha hr hs) fun σ H Q h => by
  obtain ⟨W, B, G0, H0, G, env, P, R, hm, q⟩ := h
  refine ⟨W, B + n1, G0, H0, G, env, _, R.le (by omega), hm, fun x e1 v G1 H1 p1 s1 R1 d1 => ⟨W, _, G0, H0, G1, e1, _, R1, p1, fun as e2 vs G2 H2 p2 s2 R2 d2 => ?_⟩⟩
  exact q _ e2 _ G2 H2 p2 (s1.trans s2) R2 (.cons (a := .d x) (dp_same s2 d1) d2)
theorem ga_hd (i : Nat) {x : Str} (hr : GA X es n1 m1) (hN : X.N[i]? = some x := by rfl) (hv : Vis X.env.scope x := by first | exact Or.inl rfl | exact Or.inr (Or.inl rfl) | exact Or.inr (Or.inr rfl)) (hd : (x == ("__debug__" : Str)) = false := by decide)
    (hcd : (x == ("__classdict__" : Str)) = false := by decide) (hs : starEach (.Name x pos :: es) X.env = (false, eval (.Name x pos) X.env) :: starEach es X.env := by rfl) : GA X (.Name x pos :: es) n1 (mConsH i m1) := pa_imp (pa_cons (pe_var hN hv hd hcd) hr hs) fun σ H Q h => by
  obtain ⟨W, B, G0, H0, G, env, P, R, hm, q⟩ := h
  unfold mConsH at hm
  split at hm
  · obtain ⟨e1, nn⟩ := R.get_hd (by assumption)
    refine ⟨_, e1, W, B, G0, H0, G, env, _, R, hm, fun as e2 vs G2 H2 p2 s2 R2 d2 => ?_⟩
    exact q _ e2 _ G2 H2 p2 s2 R2 (.cons (a := .hd) ⟨rfl, nn⟩ d2)
  · exact hm.elim
theorem Rel.fresh {K : PySem.W.Frag} {W : Wd} {B : Nat} {G0 H0 G H : Hp} {env : DEnv} {σ : L2.St} {p : Addr} {o : HO} (R : Rel K W B G0 H0 G env σ H) (hp : H p = none) :
    Rel K W B G0 H0 G env σ (upd H p o) ∧ G p = none ∧ H0 p = none ∧ ¬ W.mu p ∧ ∀ (i : Nat) l w c, env[i]? = some (.mo w c) → σ[i]? = some (some (.ref l)) → l ≠ p := by
  have hm : ¬ W.mu p := fun m => by
    obtain ⟨u, e⟩ := W.trk _ H p R.inv m
    rw [e] at hp
    cases hp
  refine ⟨R.grow (Grow.hid R.pub hp), R.pub.free hp, ?_, hm, fun i l w c h1 h2 e => ?_⟩
  · cases z : H0 p with
    | none => rfl
    | some u =>
      rw [R.fr p u z hm] at hp
      cases hp
  · obtain ⟨l2, e2, _, _, hl⟩ := R.get_mo h1
    rw [h2] at e2
    cases e2
    obtain ⟨o, ho⟩ := scok_some hl
    rw [e, hp] at ho
    cases ho
theorem ge_tup {x1 : Nat} (h : GA X es n1 m1) : GE X (.Tuple es x1 pos) n1 (mTup m1) := pe_imp (pe_tup h) fun σ H Q h => by
  obtain ⟨W, B, G0, H0, G, env, P, R, hm, q⟩ := h
  refine ⟨W, B, G0, H0, G, env, _, R, hm, fun as e1 vs G1 H1 p1 s1 R1 a1 => ?_⟩
  obtain ⟨ds, hd, hl, hP⟩ := mDats_ok p1
  have da := dats_ok a1 hd
  refine ⟨by rw [dpAll_len da]; exact hl, fun t ht => ?_⟩
  have g : Grow G1 H1 (upd G1 t (.tup vs)) (upd H1 t (.tup vs)) := Grow.new1 R1.pub ht
  exact q _ e1 _ _ _ hP (s1.trans g.eg) (R1.grow g) (.tup (SqT.of upd_same) (dpAll_same g.eg da))
theorem gf_lst (h : GA X es n1 m1) : GF X (.List es pos) n1 (mLst m1) := pe_imp (pe_lst h) fun σ H Q h => by
  obtain ⟨W, B, G0, H0, G, env, P, R, hm, q⟩ := h
  refine ⟨W, B, G0, H0, G, env, _, R, hm, fun as e1 vs G1 H1 p1 s1 R1 a1 => ?_⟩
  obtain ⟨ds, hd, hl, hP⟩ := mDats_ok p1
  have da := dats_ok a1 hd
  refine ⟨by rw [dpAll_len da]; exact hl, fun t ht => ?_⟩
  obtain ⟨R2, f1, f2, f3, f4⟩ := R1.fresh (o := .lst vs) ht
  exact q _ e1 _ _ _ hP s1 R2 ⟨vs, upd_same, f1, f2, f3, f4, da⟩
/-- a fresh list is published -/
theorem Rel.pubF {K : PySem.W.Frag} {W : Wd} {B : Nat} {G0 H0 G H : Hp} {env : DEnv} {σ : L2.St} {p : Addr} {xs : List D} (R : Rel K W B G0 H0 G env σ H) (h : FreshAt K W H0 G env σ H p xs) :
    ∃ G', Same G G' ∧ Rel K W B G0 H0 G' env σ H ∧ Dr K G' (.ref p) (.list xs) := by
  obtain ⟨vs, hp, hg, h0, hm, hd, hq⟩ := h
  have eg : Same G (upd G p (.lst vs)) := same_upd hg
  refine ⟨upd G p (.lst vs), eg, { g0 := R.g0.trans eg, pub := fun a u e => ?_, gm := fun a m => ?_, inv := R.inv, fr := R.fr, pn := fun a o e e0 => ?_, len := R.len, slot := fun j e s h1 h2 => ?_, dis := R.dis }, .lst upd_same (dpAll_same eg hq)⟩
  · by_cases z : a = p
    · subst z
      rw [upd_same] at e
      cases e
      exact hp
    · rw [upd_ne z] at e
      exact R.pub a u e
  · by_cases z : a = p
    · subst z
      exact absurd m hm
    · rw [upd_ne z]
      exact R.gm a m
  · by_cases z : a = p
    · subst z
      exact h0
    · rw [upd_ne z] at e
      exact R.pn a o e e0
  · have q := R.slot j e s h1 h2
    cases e with
    | un => trivial
    | d x =>
      obtain ⟨v, e1, q1⟩ := q
      exact ⟨v, e1, dp_same eg q1⟩
    | «at» _ => trivial
    | mo w c =>
      obtain ⟨l2, e1, n2, o2, q1⟩ := q
      refine ⟨l2, e1, ?_, o2, scok_later eg (fun _ h => h) q1⟩
      subst e1
      rw [upd_ne (hd j l2 w c h1 h2)]
      exact n2
    | hd => exact q
theorem ge_pub {mf : MF} (h : GF X e ne mf) : GE X e ne (mPubF mf) := pe_imp h fun σ H Q h => by
  obtain ⟨W, B, G0, H0, G, env, P, R, hm, q⟩ := h
  refine ⟨W, B, G0, H0, G, env, _, R, hm, fun xs e1 p G1 H1 p1 s1 R1 f1 => ?_⟩
  obtain ⟨G2, s2, R2, d2⟩ := R1.pubF f1
  exact q _ e1 _ G2 H1 p1 (s1.trans s2) R2 d2
theorem ge_lst (h : GA X es n1 m1) : GE X (.List es pos) n1 (mPubF (mLst m1)) := ge_pub (gf_lst h)
theorem cb_ok {f : List D → (D → Prop) → Prop} {σ : L2.St} {H : Hp} {Q : VK} (h : tD X.K n1 (mCB f m1) σ H Q) : tCB (rDC X.K f) (tA X.K n1 m1) σ H Q := by
  obtain ⟨W, B, G0, H0, G, env, P, R, hm, q⟩ := h
  refine ⟨W, B, G0, H0, G, env, _, R, hm, fun as e1 vs G1 H1 p1 s1 R1 a1 => ?_⟩
  obtain ⟨ds, hd, hP⟩ := mDats_ok p1
  exact ⟨G1, ds, _, R1.pub, dats_ok a1 hd, hP, fun z v G2 H2 p2 g2 d2 => q z e1 v G2 H2 p2 (s1.trans g2.eg) (R1.grow g2) d2⟩
theorem ge_callB {id : String} {x : Str} {f : List D → (D → Prop) → Prop} (hc : CallR X (.builtin id) (rDC X.K f)) (hg : Gl X x) (hm : X.mg x = none) (hv : bootBuiltins x = some (.builtin id)) (ha : GA X (e :: es) n1 m1) (hn : x ≠ "__name__" := by decide) (hdb : (x == ("__debug__" : Str)) = false := by decide)
    (he : starEach (e :: es) X.env = (false, eval e X.env) :: starEach es X.env := by rfl) (hpl : (backTo pos (starEach es X.env)).any (·.1) = false := by rfl) : GE X (.Call (.Name x p) (e :: es) [] pos) n1 (mCB f m1) :=
  pe_imp (pe_callB hc hg hm hv ha hn hdb he hpl) fun σ H Q h => cb_ok h
theorem ge_callTy {T : String} {x : Str} {f : List D → (D → Prop) → Prop} (hc : CallR X (.type T) (rDC X.K f)) (hg : Gl X x) (hm : X.mg x = none) (hv : bootBuiltins x = some (.type T)) (ha : GA X (e :: es) n1 m1) (hn : x ≠ "__name__" := by decide) (hdb : (x == ("__debug__" : Str)) = false := by decide)
    (he : starEach (e :: es) X.env = (false, eval e X.env) :: starEach es X.env := by rfl) (hpl : (backTo pos (starEach es X.env)).any (·.1) = false := by rfl) : GE X (.Call (.Name x p) (e :: es) [] pos) n1 (mCB f m1) :=
  pe_imp (pe_callTy hc hg hm hv ha hn hdb he hpl) fun σ H Q h => cb_ok h
/-! ### a def's promise on data -/
def spD (K : PySem.W.Frag) (c : Nat) (sp : List EV → (D → Prop) → Prop) : Sp := fun vs H Q _ => ∃ (k : Wk) (B : Nat) (G : Hp) (as : List EV) (P : D → Prop), RW (.of k) (B + c) G H G H ∧ ArgsOk K k G vs as ∧ sp as P ∧
  ∀ x v G' H', P x → RW (.of k) B G H G' H' → Dr K G' v x → Q v H'
theorem call_ok {cc : Nat} {sp : List EV → (D → Prop) → Prop} {E : XK} {σ : L2.St} {H : Hp} {Q : VK} (h : tD X.K (n1 + cc) (mCall sp m1) σ H Q) : tCall (spD X.K cc sp) [] E (tA X.K n1 m1) σ H Q := by
  obtain ⟨W, B, G0, H0, G, env, P, R, hm, q⟩ := h
  refine ⟨W, B + cc, G0, H0, G, env, _, R.le (by omega), hm, fun as e1 vs G1 H1 p1 s1 R1 a1 => ?_⟩
  show spD X.K cc sp (vs ++ []) H1 Q E
  rw [List.append_nil]
  exact ⟨W.dk, B, G1, as, _, R1.toRW.self0, a1, p1, fun x v G2 H2 p2 r2 d2 => q x e1 v G2 H2 p2 (s1.trans r2.g0) (R1.after r2) d2⟩
theorem ge_call {CX : CXT} {k cc : Nat} {f : Addr} {fd : FuncData} {ps : List Str} {sp : List EV → (D → Prop) → Prop} {E : XK} {x : Str} (F : FnOk X.prog X.w X.K X.mg X.base CX k f fd ps (spD X.K cc sp)) (hr : Room k X.A) (hg : Gl X x) (hm : X.mg x = some (.ref f)) (hk : PySem.W.keepIn X.K (.ref f) = true) (hb : Binds X.K fd ps []) (hx : Passes CX X E)
    (ha : GA X (e :: es) n1 m1) (hdb : (x == ("__debug__" : Str)) = false := by decide) (he : starEach (e :: es) X.env = (false, eval e X.env) :: starEach es X.env := by rfl) (hpl : (backTo pos (starEach es X.env)).any (·.1) = false := by rfl) :
    GE X (.Call (.Name x p) (e :: es) [] pos) (n1 + cc) (mCall sp m1) := pe_imp (pe_call F hr hg hm hk hb .nil hx ha hdb he hpl) fun σ H Q h => call_ok h
theorem ge_call0 {CX : CXT} {k cc : Nat} {f : Addr} {fd : FuncData} {ps : List Str} {sp : List EV → (D → Prop) → Prop} {E : XK} {x : Str} (F : FnOk X.prog X.w X.K X.mg X.base CX k f fd ps (spD X.K cc sp)) (hr : Room k X.A) (hg : Gl X x) (hm : X.mg x = some (.ref f)) (hk : PySem.W.keepIn X.K (.ref f) = true) (hb : Binds X.K fd ps []) (hx : Passes CX X E)
    (hdb : (x == ("__debug__" : Str)) = false := by decide) : GE X (.Call (.Name x p) [] [] pos) cc (mCall sp mNil) := pe_imp (pe_call0 F hr hg hm hk hb .nil hx hdb) fun σ H Q h => by
  obtain ⟨W, B, G0, H0, G, env, P, R, hm, q⟩ := h
  exact ⟨W.dk, B, G, [], _, R.toRW.self0, .nil, hm, fun x v G2 H2 p2 r2 d2 => q x env v G2 H2 p2 r2.g0 (R.after r2) d2⟩
/-! ### a built-in's method -/
/-- the receiver's type by data -/
def tyD : D → String
  | .str _ => "str"
  | .int _ => "int"
  | .list _ => "list"
  | .dict _ => "dict"
  | _ => ""
theorem ty_ok {K : PySem.W.Frag} {G H : Hp} {v : V} {x : D} {T : String} (s : Same G H) (d : Dr K G v x) (h : tyD x = T) (hT : T ≠ "") : tyV K T v H := by
  cases x with
  | str z => cases dp_str d; exact h.symm
  | int i => cases dp_int d; exact h.symm
  | list xs =>
    obtain ⟨a, vs, rfl, h1, h2⟩ := dp_lst d
    exact .inl ⟨h.symm, vs, SqL.of (s _ _ h1)⟩
  | dict xs =>
    obtain ⟨a, vs, rfl, h1, h2⟩ := dp_dic d
    exact .inr (.inr (.inl ⟨h.symm, .inl ⟨vs, s _ _ h1⟩⟩))
  | _ => exact absurd h.symm hT
def mBMt (T : String) (f : D → List D → (D → Prop) → Prop) (o : ME) (a : MA) : ME := fun env P => o env fun x e1 => tyD x = T ∧ a e1 fun as e2 => mDats as fun ds => f x ds fun z => P z e2
theorem ge_bm {T id : String} {name : Str} {apos cpos : Pos} {f : D → List D → (D → Prop) → Prop} {mo : ME} (pa : PlainAttrs T) (slot : Slot T name id) (hty : typeOf (.builtin id) = pure (.type "method_descriptor")) (hm : MtR X id (rDM X.K f)) (ho : GE X o no mo) (ha : GA X (e :: es) n1 m1) (hT : T ≠ "" := by decide)
    (hbase : attributeBase o name X.env (eval o X.env) = eval o X.env := by rfl)
    (hfew : ((backTo cpos (starEach (e :: es) X.env)).all (fun x => !x.1) && (backToKw cpos (keywordEach [] X.env)).all (fun x => x.1.isSome)
      && decide ((e :: es).length + ([] : List Keyword).length + (if ([] : List Keyword).isEmpty then 0 else 1) < 30)) = true := by rfl)
    (hline : (apos.endLine == cpos.line) = true := by rfl) (hs : starEach (e :: es) X.env = (false, eval e X.env) :: starEach es X.env := by rfl) (hplain : (backTo cpos (starEach es X.env)).any (·.1) = false := by rfl) :
    GE X (.Call (.Attribute o name apos) (e :: es) [] cpos) (no + n1) (mBMt T f mo m1) := pe_imp (pe_bm pa slot hty hm ho ha hbase hfew hline hs hplain) fun σ H Q h => by
  obtain ⟨W, B, G0, H0, G, env, P, R, hm, q⟩ := h
  refine ⟨W, B + n1, G0, H0, G, env, _, R.le (by omega), hm, fun x e1 v G1 H1 p1 s1 R1 d1 => ⟨ty_ok R1.pub d1 p1.1 hT, W, _, G0, H0, G1, e1, _, R1, p1.2, fun as e2 vs G2 H2 p2 s2 R2 a2 => ?_⟩⟩
  obtain ⟨ds, hd, hP⟩ := mDats_ok p2
  exact ⟨G2, x, ds, _, R2.pub, dp_same s2 d1, dats_ok a2 hd, hP, fun z w G3 H3 p3 g3 d3 => q z e2 w G3 H3 p3 ((s1.trans s2).trans g3.eg) (R2.grow g3) d3⟩
theorem ge_bm0 {T id : String} {name : Str} {apos cpos : Pos} {f : D → List D → (D → Prop) → Prop} {mo : ME} (pa : PlainAttrs T) (slot : Slot T name id) (hty : typeOf (.builtin id) = pure (.type "method_descriptor")) (hm : MtR X id (rDM X.K f)) (ho : GE X o no mo) (hT : T ≠ "" := by decide)
    (hbase : attributeBase o name X.env (eval o X.env) = eval o X.env := by rfl) (hline : (apos.endLine == cpos.line) = true := by rfl) : GE X (.Call (.Attribute o name apos) [] [] cpos) no (mBMt T f mo mNil) := pe_imp (pe_bm0 pa slot hty hm ho hbase hline) fun σ H Q h => by
  obtain ⟨W, B, G0, H0, G, env, P, R, hm, q⟩ := h
  refine ⟨W, B, G0, H0, G, env, _, R, hm, fun x e1 v G1 H1 p1 s1 R1 d1 => ⟨ty_ok R1.pub d1 p1.1 hT, ?_⟩⟩
  exact ⟨G1, x, [], _, R1.pub, d1, .nil, p1.2, fun z w G3 H3 p3 g3 d3 => q z e1 w G3 H3 p3 (s1.trans g3.eg) (R1.grow g3) d3⟩
end
end DL
namespace DL
open PySem PySem.Spec PyProof.Rows L2
/-! ### statements -/
structure DEnds where
  nx : DEnv → Prop
  rt : D → DEnv → Prop
  bk : DEnv → Prop := fun _ => False
  ct : DEnv → Prop := fun _ => False
abbrev MS := DEnds → DEnv → Prop
structure EndsOk (K : PySem.W.Frag) (W : Wd) (B : Nat) (G0 H0 G : Hp) (E : DEnds) (D : Ends) : Prop where
  nx : ∀ env' σ' G' H', E.nx env' → Same G G' → Rel K W B G0 H0 G' env' σ' H' → D.nx σ' H'
  rt : ∀ x env' σ' v G' H', E.rt x env' → Same G G' → Rel K W B G0 H0 G' env' σ' H' → Dr K G' v x → D.rt v H'
  bk : ∀ env' σ' G' H', E.bk env' → Same G G' → Rel K W B G0 H0 G' env' σ' H' → D.bk σ' H'
  ct : ∀ env' σ' G' H', E.ct env' → Same G G' → Rel K W B G0 H0 G' env' σ' H' → D.ct σ' H'
theorem EndsOk.later {K : PySem.W.Frag} {W : Wd} {B : Nat} {G0 H0 G G' : Hp} {E : DEnds} {D : Ends} (h : EndsOk K W B G0 H0 G E D) (s : Same G G') : EndsOk K W B G0 H0 G' E D :=
  ⟨fun e σ g H p z => h.nx e σ g H p (s.trans z), fun x e σ v g H p z => h.rt x e σ v g H p (s.trans z), fun e σ g H p z => h.bk e σ g H p (s.trans z), fun e σ g H p z => h.ct e σ g H p (s.trans z)⟩
theorem EndsOk.more {K : PySem.W.Frag} {W : Wd} {B B' : Nat} {G0 H0 G : Hp} {E : DEnds} {D : Ends} (h : EndsOk K W B G0 H0 G E D) (l : B ≤ B') : EndsOk K W B' G0 H0 G E D :=
  ⟨fun e σ g H p z R => h.nx e σ g H p z (R.le l), fun x e σ v g H p z R d => h.rt x e σ v g H p z (R.le l) d, fun e σ g H p z R => h.bk e σ g H p z (R.le l), fun e σ g H p z R => h.ct e σ g H p z (R.le l)⟩
def tS (K : PySem.W.Frag) (n : Nat) (m : MS) : TS := fun D σ H => ∃ (W : Wd) (B : Nat) (G0 H0 G : Hp) (env : DEnv) (E : DEnds), Rel K W (B + n) G0 H0 G env σ H ∧ m E env ∧ EndsOk K W B G0 H0 G E D
abbrev GS (X : Cx) (st : Stmt) (n : Nat) (m : MS) : Prop := PS X st (tS X.K n m)
abbrev GSs (X : Cx) (st : List Stmt) (n : Nat) (m : MS) : Prop := PSs X st (tS X.K n m)
def sNext : MS := fun E env => E.nx env
def sSeq (a b : MS) : MS := fun E env => a { E with nx := b E } env
def sSet (i : Nat) (m : ME) : MS := fun E env => m env fun x e1 => E.nx (e1.set i (.d x))
def sSetF (i : Nat) (m : MF) : MS := fun E env => m env fun xs e1 => E.nx (e1.set i (.own xs))
def sRet (m : ME) : MS := fun E env => m env fun x e1 => E.rt x e1
def sRetN : MS := fun E env => E.rt .none env
def sDrop (m : ME) : MS := fun E env => m env fun _ e1 => E.nx e1
def sIf (t : MT) (a b : MS) : MS := fun E env => t env fun k e1 => match k with
  | true => a E e1
  | false => b E e1
def sBreak : MS := fun E env => E.bk env
def sCont : MS := fun E env => E.ct env
/-- x.append(e), x an own list -/
def sApp (i : Nat) (m : ME) : MS := fun E env => (∃ xs, env[i]? = some (.own xs)) ∧ m env fun x e1 => match e1[i]? with
  | some (.mo none (.lst xs)) => xs.length < sizeLine ∧ E.nx (e1.set i (.own (xs ++ [x])))
  | _ => False
section
variable {X : Cx} {a b c e o : Expr} {es : List Expr} {st : Stmt} {sts sts' : List Stmt} {pos p : Pos} {ma mb mc me : ME} {mt mu : MT} {m1 m2 : MA} {ms ms' : MS} {mf : MF} {na nb nc ne nt n1 n2 : Nat}
theorem gss_nil : GSs X [] 0 sNext := pss_imp pss_nil fun D σ H h => by
  obtain ⟨W, B, G0, H0, G, env, E, R, hm, q⟩ := h
  exact q.nx _ _ _ _ hm (Same.refl _) R
theorem gss_cons (h1 : GS X st n1 ms) (h2 : GSs X sts n2 ms') : GSs X (st :: sts) (n1 + n2) (sSeq ms ms') := pss_imp (pss_cons h1 h2) fun D σ H h => by
  obtain ⟨W, B, G0, H0, G, env, E, R, hm, q⟩ := h
  have q2 := q.more (Nat.le_add_right B n2)
  refine ⟨W, B + n2, G0, H0, G, env, _, R.le (by omega), hm, ⟨fun e σ g H p z R2 => ⟨W, B, G0, H0, g, e, E, R2, p, q.later z⟩, q2.rt, q2.bk, q2.ct⟩⟩
theorem gss_one (h1 : GS X st n1 ms) : GSs X [st] n1 ms := pss_one h1
theorem gs_never : GS X st 0 (fun _ _ => False) := pss_never_of where
  pss_never_of := ps_imp ps_never fun D σ H h => by
    obtain ⟨W, B, G0, H0, G, env, E, R, hm, q⟩ := h
    exact hm
theorem gs_pass : GS X (.Pass pos) 0 sNext := ps_imp ps_pass fun D σ H h => by
  obtain ⟨W, B, G0, H0, G, env, E, R, hm, q⟩ := h
  exact q.nx _ _ _ _ hm (Same.refl _) R
theorem gs_break : GS X (.Break pos) 0 sBreak := ps_imp ps_break fun D σ H h => by
  obtain ⟨W, B, G0, H0, G, env, E, R, hm, q⟩ := h
  exact q.bk _ _ _ _ hm (Same.refl _) R
theorem gs_cont : GS X (.Continue pos) 0 sCont := ps_imp ps_continue fun D σ H h => by
  obtain ⟨W, B, G0, H0, G, env, E, R, hm, q⟩ := h
  exact q.ct _ _ _ _ hm (Same.refl _) R
theorem gs_set {i : Nat} {x : Str} {pos' : Pos} (hN : X.N.Nodup) (hi : X.N[i]? = some x) (hx : Loc X.env.scope x) (he : GE X e ne me) (hs : swapsWith e (some (.Name x pos')) pos.line X.env = pure false := by rfl) (hf : X.fn x = true ∨ X.env.scope.names.lookup x = some .local := by first | exact .inl rfl | exact .inr rfl) :
    GS X (.Assign [.Name x pos'] e pos) ne (sSet i me) := ps_imp (ps_set hN hi hx he hs hf) fun D σ H h => by
  obtain ⟨W, B, G0, H0, G, env, E, R, hm, q⟩ := h
  refine ⟨W, B, G0, H0, G, env, _, R, hm, fun x e1 v G1 H1 p1 s1 R1 d1 => ?_⟩
  exact q.nx _ _ _ _ p1 s1 (R1.set_d d1)
theorem Rel.set_own {K : PySem.W.Frag} {W : Wd} {B : Nat} {G0 H0 G H : Hp} {env : DEnv} {σ : L2.St} {i : Nat} {p : Addr} {xs : List D} (r : Rel K W B G0 H0 G env σ H) (h : FreshAt K W H0 G env σ H p xs) : Rel K W B G0 H0 G (env.set i (.own xs)) (σ.set i (some (.ref p))) H := by
  obtain ⟨vs, hp, hg, h0, hm, hd, hq⟩ := h
  exact { r.toRW with
    len := by rw [List.length_set, List.length_set]; exact r.len
    slot := fun j e s h1 h2 => by
      by_cases z : i = j
      · subst z
        by_cases hl : i < env.length
        · rw [List.getElem?_set_self hl] at h1
          rw [List.getElem?_set_self (r.len ▸ hl)] at h2
          cases h1
          cases h2
          exact ⟨p, rfl, hg, ⟨h0, hm⟩, vs, hp, hq⟩
        · rw [List.getElem?_eq_none (by rw [List.length_set]; omega)] at h1
          cases h1
      · rw [List.getElem?_set_ne z] at h1 h2
        exact r.slot j e s h1 h2
    dis := fun j k wi ci wj cj l ne h1 h2 h3 h4 => by
      have bd : ∀ {n : Nat} {y}, (env.set i (.own xs))[n]? = some y → n < env.length := fun {n y} h => by
        have := (List.getElem?_eq_some_iff.mp h).1
        rw [List.length_set] at this
        exact this
      have b1 := bd h1
      have b2 := bd h2
      by_cases z1 : i = j
      · subst z1
        rw [List.getElem?_set_self (r.len ▸ b1)] at h3
        cases h3
        rw [List.getElem?_set_ne ne] at h2 h4
        exact hd k _ _ _ h2 h4 rfl
      · rw [List.getElem?_set_ne z1] at h1 h3
        by_cases z2 : i = k
        · subst z2
          rw [List.getElem?_set_self (r.len ▸ b2)] at h4
          cases h4
          exact hd j _ _ _ h1 h3 rfl
        · rw [List.getElem?_set_ne z2] at h2 h4
          exact r.dis j k wi ci wj cj l ne h1 h2 h3 h4 }
theorem gs_setF {i : Nat} {x : Str} {pos' : Pos} (hN : X.N.Nodup) (hi : X.N[i]? = some x) (hx : Loc X.env.scope x) (he : GF X e ne mf) (hs : swapsWith e (some (.Name x pos')) pos.line X.env = pure false := by rfl) (hf : X.fn x = true ∨ X.env.scope.names.lookup x = some .local := by first | exact .inl rfl | exact .inr rfl) :
    GS X (.Assign [.Name x pos'] e pos) ne (sSetF i mf) := ps_imp (ps_set hN hi hx he hs hf) fun D σ H h => by
  obtain ⟨W, B, G0, H0, G, env, E, R, hm, q⟩ := h
  refine ⟨W, B, G0, H0, G, env, _, R, hm, fun xs e1 p G1 H1 p1 s1 R1 d1 => ?_⟩
  exact q.nx _ _ _ _ p1 s1 (R1.set_own d1)
theorem gs_ret (he : GE X e ne me) : GS X (.Return (some e) pos) ne (sRet me) := ps_imp (ps_ret he) fun D σ H h => by
  obtain ⟨W, B, G0, H0, G, env, E, R, hm, q⟩ := h
  exact ⟨W, B, G0, H0, G, env, _, R, hm, fun x e1 v G1 H1 p1 s1 R1 d1 => q.rt _ _ _ _ _ _ p1 s1 R1 d1⟩
theorem gs_retN : GS X (.Return none pos) 0 sRetN := ps_imp ps_retN fun D σ H h => by
  obtain ⟨W, B, G0, H0, G, env, E, R, hm, q⟩ := h
  exact q.rt _ _ _ _ _ _ hm (Same.refl _) R .non
theorem gs_expr (he : GE X e ne me) (hs : swapsWith e none pos.line X.env = pure false := by rfl) : GS X (.Expr e pos) ne (sDrop me) := ps_imp (ps_expr he hs) fun D σ H h => by
  obtain ⟨W, B, G0, H0, G, env, E, R, hm, q⟩ := h
  exact ⟨W, B, G0, H0, G, env, _, R, hm, fun x e1 v G1 H1 p1 s1 R1 d1 => q.nx _ _ _ _ p1 s1 R1⟩
theorem gs_if (hc : GT X c nt mt) (ha : GSs X sts n1 ms) (hb : GSs X sts' n2 ms') : GS X (.If c sts sts' pos) (nt + (n1 + n2)) (sIf mt ms ms') := ps_imp (ps_if hc ha hb) fun D σ H h => by
  obtain ⟨W, B, G0, H0, G, env, E, R, hm, q⟩ := h
  refine ⟨W, B + (n1 + n2), G0, H0, G, env, _, R.le (by omega), hm, fun k e1 G1 H1 p1 s1 R1 => ?_⟩
  cases k with
  | true => exact iteT ⟨W, B + n2, G0, H0, G1, e1, E, R1.le (by omega), p1, (q.more (by omega)).later s1⟩
  | false => exact iteF ⟨W, B + n1, G0, H0, G1, e1, E, R1.le (by omega), p1, (q.more (by omega)).later s1⟩
/-- an object is written -/
theorem Rel.put {K : PySem.W.Frag} {W : Wd} {B : Nat} {G0 H0 G H : Hp} {env : DEnv} {σ : L2.St} {i : Nat} {l : Addr} {o : HO} {w : Option Nat} {c c' : SC} (r : Rel K W B G0 H0 G env σ H) (h : env[i]? = some (.mo w c)) (hs : σ[i]? = some (some (.ref l))) (hc : ScOk K G (upd H l o) l c') :
    Rel K W B G0 H0 G (env.set i (.mo w c')) σ (upd H l o) := by
  have hil : i < env.length := (List.getElem?_eq_some_iff.mp h).1
  obtain ⟨l0, e0, hg, hw, hq⟩ := r.get_mo h
  rw [hs] at e0
  cases e0
  have hdk := r.mo_ndk h hs
  refine { g0 := r.g0, pub := fun a o e => ?_, gm := r.gm, inv := W.loc' _ H _ (fun a m => ?_) (fun a m => ?_) r.inv, fr := fun a o e m => ?_, pn := r.pn, len := by rw [List.length_set]; exact r.len, slot := fun j e s h1 h2 => ?_, dis := fun j k wi ci wj cj l' ne h1 h2 h3 => ?_ }
  · have ne : a ≠ l := fun z => by
      subst z
      rw [hg] at e
      cases e
    rw [upd_ne ne]
    exact r.pub a o e
  · have ne : a ≠ l := fun z => by
      subst z
      exact hdk m
    rw [upd_ne ne]
  · by_cases z : a = l
    · subst z
      exact ⟨_, upd_same⟩
    · rw [upd_ne z]
      exact r.inv.2.2 a m
  · have ne : a ≠ l := fun z => by
      subst z
      cases w with
      | none =>
        have := hw.1
        rw [this] at e
        cases e
      | some j => exact m (.inr (List.mem_of_getElem? hw))
    rw [upd_ne ne]
    exact r.fr a o e m
  · by_cases z : i = j
    · subst z
      rw [List.getElem?_set_self hil] at h1
      cases h1
      rw [hs] at h2
      cases h2
      exact ⟨l, rfl, hg, hw, hc⟩
    · rw [List.getElem?_set_ne z] at h1
      have q := r.slot j e s h1 h2
      cases e with
      | un => trivial
      | d x => exact q
      | «at» _ => trivial
      | mo w2 c2 =>
        obtain ⟨l2, e1, n2, o2, q1⟩ := q
        have ne : l2 ≠ l := fun w => by
          subst w
          subst e1
          exact r.dis i j _ _ _ _ l2 z h h1 hs h2
        refine ⟨l2, e1, n2, o2, scok_later (Same.refl _) (fun u hu => ?_) q1⟩
        rw [upd_ne ne]
        exact hu
      | hd => exact q
  · have f : ∀ {n : Nat} {w' c''}, (env.set i (.mo w c'))[n]? = some (.mo w' c'') → ∃ w' c'', env[n]? = some (.mo w' c'') := fun {n w' c''} hh => by
      by_cases z : i = n
      · subst z
        exact ⟨_, _, h⟩
      · rw [List.getElem?_set_ne z] at hh
        exact ⟨_, _, hh⟩
    obtain ⟨w1, c1, g1⟩ := f h1
    obtain ⟨w2, c2, g2⟩ := f h2
    exact r.dis j k w1 c1 w2 c2 l' ne g1 g2 h3
/-- an own list is written -/
theorem Rel.write {K : PySem.W.Frag} {W : Wd} {B : Nat} {G0 H0 G H : Hp} {env : DEnv} {σ : L2.St} {i : Nat} {l : Addr} {vs us : List V} {xs ys : List D} (r : Rel K W B G0 H0 G env σ H) (h : env[i]? = some (.own xs)) (hs : σ[i]? = some (some (.ref l))) (hl : H l = some (.lst vs)) (hg : G l = none) (h0 : H0 l = none) (hm : ¬ W.mu l) (hq : DrAll K G us ys) :
    Rel K W B G0 H0 G (env.set i (.own ys)) σ (upd H l (.lst us)) := r.put h hs ⟨us, upd_same, hq⟩
theorem gs_append {i : Nat} {x : Str} {px apos cpos : Pos} (hN : X.N[i]? = some x) (hv : Vis X.env.scope x) (he : GE X e ne me) (hd : (x == ("__debug__" : Str)) = false := by decide)
    (hcd : (x == ("__classdict__" : Str)) = false := by decide) (hbase : attributeBase (.Name x px) "append" X.env (eval (.Name x px) X.env) = eval (.Name x px) X.env := by rfl)
    (hfew : ((backTo cpos (starEach [e] X.env)).all (fun x => !x.1) && (backToKw cpos (keywordEach [] X.env)).all (fun x => x.1.isSome)
      && decide ([e].length + ([] : List Keyword).length + (if ([] : List Keyword).isEmpty then 0 else 1) < 30)) = true := by rfl)
    (hline : (apos.endLine == cpos.line) = true := by rfl) (hs : starEach [e] X.env = (false, eval e X.env) :: starEach [] X.env := by rfl) (hplain : (backTo cpos (starEach ([] : List Expr) X.env)).any (·.1) = false := by rfl)
    (hsw : swapsWith (.Call (.Attribute (.Name x px) "append" apos) [e] [] cpos) none pos.line X.env = pure false := by rfl) :
    GS X (.Expr (.Call (.Attribute (.Name x px) "append" apos) [e] [] cpos) pos) ne (sApp i me) :=
  ps_imp (ps_expr (pe_bm PySem.F.plainAttrs_list PySem.F.slot_list_append PySem.F.type_list_append mt_append (pe_var hN hv hd hcd) (pa_cons he pa_nil hs) hbase hfew hline hs hplain) hsw) fun D σ H h => by
  obtain ⟨W, B, G0, H0, G, env, E, R, ⟨⟨xs, hx⟩, hm⟩, q⟩ := h
  obtain ⟨l, vs, e1, hl, hg, h0, hmu, hq⟩ := R.get_own hx
  refine ⟨_, e1, .inl ⟨rfl, vs, SqL.of hl⟩, W, B, G0, H0, G, env, _, R, hm, fun y e2 v G2 H2 p2 s2 R2 d2 => ?_⟩
  split at p2
  · rename_i ys hy
    obtain ⟨l2, us, f1, hl2, hg2, h02, hmu2, hq2⟩ := R2.get_own hy
    rw [e1] at f1
    cases f1
    refine ⟨l, us, v, rfl, rfl, hl2, by rw [dpAll_len hq2]; exact p2.1, ?_⟩
    exact q.nx _ _ _ _ p2.2 s2 (R2.write hy e1 hl2 hg2 h02 hmu2 (dpAll_app hq2 (dpAll_one d2)))
  · exact p2.elim
end
end DL
namespace DL
open PySem PySem.Spec PyProof.Rows L2
/-! ### slots forgotten (a comprehension's own) -/
def wipeE (env : DEnv) : List Nat → DEnv
  | [] => env
  | v :: vs => (wipeE env vs).set v .un
theorem wipeE_length (env : DEnv) : ∀ vs : List Nat, (wipeE env vs).length = env.length
  | [] => rfl
  | v :: vs => by unfold wipeE; rw [List.length_set, wipeE_length env vs]
theorem wipeE_out {env : DEnv} {i : Nat} : ∀ {vs : List Nat}, i ∉ vs → (wipeE env vs)[i]? = env[i]?
  | [], _ => rfl
  | v :: vs, h => by
    unfold wipeE
    rw [List.getElem?_set_ne (fun e => h (by rw [e]; exact List.mem_cons_self))]
    exact wipeE_out fun z => h (List.mem_cons_of_mem _ z)
theorem wipeE_in {env : DEnv} {i : Nat} {e : EV} : ∀ {vs : List Nat}, i ∈ vs → (wipeE env vs)[i]? = some e → e = .un
  | [], h, _ => by cases h
  | v :: vs, h, q => by
    unfold wipeE at q
    by_cases z : v = i
    · subst z
      by_cases hv : v < (wipeE env vs).length
      · rw [List.getElem?_set_self hv] at q
        cases q
        rfl
      · rw [List.getElem?_eq_none (by rw [List.length_set]; omega)] at q
        cases q
    · rw [List.getElem?_set_ne z] at q
      rcases List.mem_cons.mp h with h | h
      · exact absurd h.symm z
      · exact wipeE_in h q
theorem wipe_out' {σ : L2.St} {i : Nat} : ∀ {vs : List Nat}, i ∉ vs → (wipe σ vs)[i]? = σ[i]?
  | [], _ => rfl
  | v :: vs, h => by
    unfold wipe
    rw [List.getElem?_set_ne (fun e => h (by rw [e]; exact List.mem_cons_self))]
    exact wipe_out' fun z => h (List.mem_cons_of_mem _ z)
theorem wipe_set {σ : L2.St} {i : Nat} {s : Option V} : ∀ {vs : List Nat}, i ∈ vs → wipe (σ.set i s) vs = wipe σ vs
  | [], h => by cases h
  | v :: vs, h => by
    unfold wipe
    by_cases z : i ∈ vs
    · rw [wipe_set z]
    · have e : v = i := by
        rcases List.mem_cons.mp h with h | h
        · exact h.symm
        · exact absurd h z
      subst e
      have : ∀ (τ : L2.St) (ws : List Nat), v ∉ ws → wipe (τ.set v s) ws = (wipe τ ws).set v s := fun τ ws => by
        induction ws with
        | nil => exact fun _ => rfl
        | cons w ws ih =>
          intro hw
          unfold wipe
          rw [ih fun q => hw (List.mem_cons_of_mem _ q)]
          exact (List.set_comm _ _ (fun q => hw (by rw [q]; exact List.mem_cons_self)))
      rw [this σ vs z, List.set_set]
theorem wipeE_set {env : DEnv} {i : Nat} {s : EV} : ∀ {vs : List Nat}, i ∈ vs → wipeE (env.set i s) vs = wipeE env vs
  | [], h => by cases h
  | v :: vs, h => by
    unfold wipeE
    by_cases z : i ∈ vs
    · rw [wipeE_set z]
    · have e : v = i := by
        rcases List.mem_cons.mp h with h | h
        · exact h.symm
        · exact absurd h z
      subst e
      have : ∀ (τ : DEnv) (ws : List Nat), v ∉ ws → wipeE (τ.set v s) ws = (wipeE τ ws).set v s := fun τ ws => by
        induction ws with
        | nil => exact fun _ => rfl
        | cons w ws ih =>
          intro hw
          unfold wipeE
          rw [ih fun q => hw (List.mem_cons_of_mem _ q)]
          exact (List.set_comm _ _ (fun q => hw (by rw [q]; exact List.mem_cons_self)))
      rw [this env vs z, List.set_set]
section
variable {K : PySem.W.Frag} {W : Wd} {B : Nat} {G0 H0 G H G' H' : Hp} {env : DEnv} {σ : L2.St}
theorem Rel.wipe (r : Rel K W B G0 H0 G env σ H) (vs : List Nat) : Rel K W B G0 H0 G (wipeE env vs) (L2.wipe σ vs) H :=
  { r.toRW with
    len := by rw [wipeE_length, L2.wipe_length]; exact r.len
    slot := fun i e s h1 h2 => by
      by_cases z : i ∈ vs
      · rw [wipeE_in z h1]
        trivial
      · rw [wipeE_out z] at h1
        rw [wipe_out' z] at h2
        exact r.slot i e s h1 h2
    dis := fun i j wi ci wj cj l ne h1 h2 h3 h4 => by
      have f : ∀ {n : Nat} {w c}, (wipeE env vs)[n]? = some (.mo w c) → n ∉ vs := fun {n w c} h z => by cases wipeE_in z h
      have z1 := f h1
      have z2 := f h2
      rw [wipeE_out z1] at h1
      rw [wipeE_out z2] at h2
      rw [wipe_out' z1] at h3
      rw [wipe_out' z2] at h4
      exact r.dis i j wi ci wj cj l ne h1 h2 h3 h4 }
def noOwn (env : DEnv) (vs : List Nat) : Prop := ∀ i ∈ vs, ∀ w c, env[i]? ≠ some (.mo w c)
theorem Rel.unwipe {vs : List Nat} {B' : Nat} (r : Rel K W B G0 H0 G env σ H) (n : noOwn env vs) (s : Same G G') (q : Rel K W B' G0 H0 G' (wipeE env vs) (L2.wipe σ vs) H') : Rel K W B' G0 H0 G' env σ H' :=
  { q.toRW with
    len := r.len
    slot := fun i e s' h1 h2 => by
      by_cases z : i ∈ vs
      · have h := r.slot i e s' h1 h2
        cases e with
        | un => trivial
        | d x =>
          obtain ⟨v, e1, q1⟩ := h
          exact ⟨v, e1, dp_same s q1⟩
        | mo w c => exact absurd h1 (n i z w c)
        | «at» _ => trivial
        | hd => exact h
      · exact q.slot i e s' (by rw [wipeE_out z]; exact h1) (by rw [wipe_out' z]; exact h2)
    dis := r.dis }
theorem Rel.guard {D : Addr} {o : HO} (r : Rel K W B G0 H0 G env σ H) (hD : H D = some o) (hg : G D = none) (ho : ∀ (i : Nat) l w c, env[i]? = some (.mo w c) → σ[i]? = some (some (.ref l)) → l ≠ D) : Rel K W B G0 (upd H0 D o) G env σ H :=
  { r.toRW with
    fr := fun a u h m => by
      by_cases z : a = D
      · subst z
        rw [upd_same] at h
        cases h
        exact hD
      · rw [upd_ne z] at h
        exact r.fr a u h m
    pn := fun a u h h0 => by
      have z : a ≠ D := fun z => by
        subst z
        rw [hg] at h
        cases h
      rw [upd_ne z]
      exact r.pn a u h h0
    len := r.len
    slot := fun i e s h1 h2 => by
      have h := r.slot i e s h1 h2
      cases e with
      | mo w c =>
        obtain ⟨l, e1, n, o, q⟩ := h
        refine ⟨l, e1, n, ?_, q⟩
        cases w with
        | some j => exact o
        | none =>
          refine ⟨?_, o.2⟩
          subst e1
          rw [upd_ne (ho i l _ c h1 h2)]
          exact o.1
      | un => trivial
      | d x => exact h
      | hd => exact h
      | «at» _ => trivial
    dis := r.dis }
theorem Rel.unguard {D : Addr} {o : HO} (r : Rel K W B G0 (upd H0 D o) G env σ H) (hm : ¬ W.mu D) (hg0 : G0 D = none) (h0 : H0 D = none) :
    Rel K W B G0 H0 G env σ H ∧ H D = some o ∧ G D = none ∧ ∀ (i : Nat) l w c, env[i]? = some (.mo w c) → σ[i]? = some (some (.ref l)) → l ≠ D := by
  have up : ∀ a u, H0 a = some u → upd H0 D o a = some u := fun a u h => by
    have z : a ≠ D := fun z => by
      subst z
      rw [h0] at h
      cases h
    rw [upd_ne z]
    exact h
  have dn : ∀ a, upd H0 D o a = none → H0 a = none := fun a h => by
    cases z : H0 a with
    | none => rfl
    | some u =>
      rw [up a u z] at h
      cases h
  refine ⟨{ r.toRW with
    fr := fun a u h m => r.fr a u (up a u h) m
    pn := fun a u h h0 => dn a (r.pn a u h h0)
    len := r.len
    slot := fun i e s h1 h2 => ?_
    dis := r.dis }, r.fr D o upd_same hm, ?_, fun i l w c h1 h2 z => ?_⟩
  · have h := r.slot i e s h1 h2
    cases e with
    | mo w c =>
      obtain ⟨l, e1, n, o, q⟩ := h
      refine ⟨l, e1, n, ?_, q⟩
      cases w with
      | some j => exact o
      | none => exact ⟨dn l o.1, o.2⟩
    | un => trivial
    | d x => exact h
    | hd => exact h
    | «at» _ => trivial
  · cases z : G D with
    | none => rfl
    | some u =>
      have := r.pn D u z hg0
      rw [upd_same] at this
      cases this
  · obtain ⟨l2, e2, _, o2, _⟩ := r.get_mo h1
    rw [h2] at e2
    cases e2
    cases w with
    | none =>
      have h02 := o2.1
      rw [z, upd_same] at h02
      cases h02
    | some j =>
      subst z
      exact hm (.inr (List.mem_of_getElem? o2))
end
/-! ### targets -/
abbrev MG := D → DEnv → (DEnv → Prop) → Prop
def tG (K : PySem.W.Frag) (vs : List Nat) (m : MG) : TG := fun v σ H Q => ∃ (W : Wd) (B : Nat) (G0 H0 G : Hp) (env : DEnv) (x : D) (P : DEnv → Prop), Rel K W B G0 H0 G env σ H ∧ Dr K G v x ∧ m x env P ∧
  ∀ env' σ' G' H', P env' → Same G G' → Rel K W B G0 H0 G' env' σ' H' → wipe σ' vs = wipe σ vs → wipeE env' vs = wipeE env vs → Q σ' H'
abbrev GG (X : Cx) (e : Expr) (vs : List Nat) (m : MG) : Prop := PG X e (tG X.K vs m)
theorem pg_imp {X : Cx} {e : Expr} {t t' : TG} (h : PG X e t) (q : ∀ v σ H Q, t' v σ H Q → t v σ H Q) : PG X e t' :=
  ⟨fun pins s σ H v u Q I r z => h.run pins s σ H v u Q I r (q v σ H Q z)⟩
def gNm (i : Nat) : MG := fun x env P => P (env.set i (.d x))
abbrev MGs := List D → DEnv → (DEnv → Prop) → Prop
def gsNil : MGs := fun xs env P => xs = [] ∧ P env
def gsCons (i : Nat) (r : MGs) : MGs := fun xs env P => match xs with
  | x :: ys => r ys (env.set i (.d x)) P
  | [] => False
def gTp (n : Nat) (m : MGs) : MG := fun x env P => match x with
  | .tuple xs => xs.length = n ∧ m xs env P
  | _ => False
def tGs (K : PySem.W.Frag) (vs : List Nat) (m : MGs) : TGs := fun us σ H Q => ∃ (W : Wd) (B : Nat) (G0 H0 G : Hp) (env : DEnv) (xs : List D) (P : DEnv → Prop), Rel K W B G0 H0 G env σ H ∧ DrAll K G us xs ∧ m xs env P ∧
  ∀ env' σ' G' H', P env' → Same G G' → Rel K W B G0 H0 G' env' σ' H' → wipe σ' vs = wipe σ vs → wipeE env' vs = wipeE env vs → Q σ' H'
section
variable {X : Cx} {e : Expr} {es : List Expr} {pos : Pos} {vs : List Nat}
theorem gg_name {i : Nat} {x : Str} (hN : X.N.Nodup) (hi : X.N[i]? = some x) (hx : Loc X.env.scope x) (hv : i ∈ vs) (hf : X.fn x = true ∨ X.env.scope.names.lookup x = some .local := by first | exact .inl rfl | exact .inr rfl | assumption) : GG X (.Name x pos) vs (gNm i) :=
  pg_imp (pg_name hN hi hx hf) fun v σ H Q h => by
  obtain ⟨W, B, G0, H0, G, env, x, P, R, d, hm, q⟩ := h
  exact q _ _ _ _ hm (Same.refl _) (R.set_d d) (wipe_set hv) (wipeE_set hv)
theorem ggs_nil : PGs X [] (tGs X.K vs gsNil) := ⟨fun pins s σ H us ws Q I r h => by
  refine pgs_nil.run pins s σ H us ws Q I r ?_
  obtain ⟨W, B, G0, H0, G, env, xs, P, R, d, hm, q⟩ := h
  obtain ⟨e1, hm⟩ := hm
  subst e1
  cases d
  exact ⟨rfl, q _ _ _ _ hm (Same.refl _) R rfl rfl⟩⟩
theorem ggs_cons {i : Nat} {x : Str} {m : MGs} (hN : X.N.Nodup) (hi : X.N[i]? = some x) (hx : Loc X.env.scope x) (hv : i ∈ vs) (hr : PGs X es (tGs X.K vs m)) (hf : X.fn x = true ∨ X.env.scope.names.lookup x = some .local := by first | exact .inl rfl | exact .inr rfl | assumption)
    (hs : (assignEach (.Name x pos :: es) X.env).map (·.2) = assign (.Name x pos) X.env :: (assignEach es X.env).map (·.2) := by rfl) : PGs X (.Name x pos :: es) (tGs X.K vs (gsCons i m)) := ⟨fun pins s σ H us ws Q I r h => by
  refine (pgs_cons (pg_name hN hi hx hf) hr hs).run pins s σ H us ws Q I r ?_
  obtain ⟨W, B, G0, H0, G, env, xs, P, R, d, hm, q⟩ := h
  cases d with
  | nil => exact hm.elim
  | cons d1 d2 =>
    refine ⟨_, _, rfl, W, B, G0, H0, G, _, _, P, R.set_d d1, d2, hm, fun e2 σ2 G2 H2 p2 s2 R2 w2 w3 => ?_⟩
    exact q _ _ _ _ p2 s2 R2 (w2.trans (wipe_set hv)) (w3.trans (wipeE_set hv))⟩
def gsConsG (m : MG) (r : MGs) : MGs := fun xs env P => match xs with
  | x :: ys => m x env fun e1 => r ys e1 P
  | [] => False
theorem ggs_consG {m : MG} {m2 : MGs} (hm : GG X e vs m) (hr : PGs X es (tGs X.K vs m2))
    (hs : (assignEach (e :: es) X.env).map (·.2) = assign e X.env :: (assignEach es X.env).map (·.2) := by rfl) : PGs X (e :: es) (tGs X.K vs (gsConsG m m2)) := ⟨fun pins s σ H us ws Q I r h => by
  refine (pgs_cons hm hr hs).run pins s σ H us ws Q I r ?_
  obtain ⟨W, B, G0, H0, G, env, xs, P, R, d, hm, q⟩ := h
  cases d with
  | nil => exact hm.elim
  | cons d1 d2 =>
    refine ⟨_, _, rfl, W, B, G0, H0, G, _, _, _, R, d1, hm, fun e1 σ1 G1 H1 p1 s1 R1 w1 w2 => ⟨W, B, G0, H0, G1, _, _, P, R1, dpAll_same s1 d2, p1, fun e2 σ2 G2 H2 p2 s2 R2 w3 w4 => ?_⟩⟩
    exact q _ _ _ _ p2 (s1.trans s2) R2 (w3.trans w1) (w4.trans w2)⟩
theorem gg_tup {k : Nat} {m : MGs} {n : Nat} (hc : X.calm = true) (h : PGs X es (tGs X.K vs m))
    (hn : (assignEach es X.env).length = n := by rfl) (hst : (assignEach es X.env).findIdx? (·.1) = none := by rfl) : GG X (.Tuple es k pos) vs (gTp n m) :=
  pg_imp (pg_tup hc h hn hst) fun v σ H Q h => by
  obtain ⟨W, B, G0, H0, G, env, x, P, R, d, hm, q⟩ := h
  cases x with
  | tuple xs =>
    obtain ⟨a, us, rfl, h1, h2⟩ := dp_tup d
    exact ⟨a, us, rfl, same_sqT R.pub h1, by rw [dpAll_len h2]; exact hm.1, W, B, G0, H0, G, env, xs, P, R, h2, hm.2, q⟩
  | _ => exact hm.elim
end
/-! ### what is walked -/
def ItD (K : PySem.W.Frag) (G : Hp) (J : It) (ds : List D) : Prop := ∀ G1 H1, Same G G1 → Same G1 H1 → ∀ i : Nat,
  (∀ x, ds[i]? = some x → J.go i H1 ∧ ∀ v H2, J.yld i H1 v H2 → ∃ G2, Grow G1 H1 G2 H2 ∧ Dr K G2 v x) ∧ (ds.length ≤ i → J.stop i H1)
theorem ItD.later {K : PySem.W.Frag} {G G' : Hp} {J : It} {ds : List D} (h : ItD K G J ds) (s : Same G G') : ItD K G' J ds := fun G1 H1 a b => h G1 H1 (s.trans a) b
abbrev MI := DEnv → (List D → DEnv → Prop) → Prop
def tI (K : PySem.W.Frag) (n : Nat) (m : MI) : TI := fun σ H R => ∃ (W : Wd) (B : Nat) (G0 H0 G : Hp) (env : DEnv) (P : List D → DEnv → Prop), Rel K W (B + n) G0 H0 G env σ H ∧ m env P ∧
  ∀ ds env' J G' H', P ds env' → Same G G' → Rel K W B G0 H0 G' env' σ H' → ItD K G' J ds → R J H'
abbrev GI (X : Cx) (tg iter : Expr) (n : Nat) (m : MI) : Prop := PI X tg iter (tI X.K n m)
theorem pi_imp {X : Cx} {tg iter : Expr} {t t' : TI} (h : PI X tg iter t) (q : ∀ σ H R, t' σ H R → t σ H R) : PI X tg iter t' := ⟨fun pins s σ H R I z => h.run pins s σ H R I (q σ H R z)⟩
theorem itd_list {K : PySem.W.Frag} {G : Hp} {a : Addr} {us : List V} {ds : List D} (h1 : G a = some (.lst us)) (h2 : DrAll K G us ds) : ItD K G (Itl K a) ds := fun G1 H1 s1 s2 i => by
  have q : SqL K H1 a us := SqL.of ((s1.trans s2) _ _ h1)
  refine ⟨fun x hx => ?_, fun hl => ?_⟩
  · obtain ⟨v, e, d⟩ := dpAll_get h2 hx
    refine ⟨⟨us, v, q, e⟩, fun w H2 y => ?_⟩
    obtain ⟨e2, y⟩ := y
    subst e2
    have := y us q
    rw [e] at this
    cases this
    exact ⟨G1, Grow.refl s2, dp_same s1 d⟩
  · exact ⟨us, q, by rw [dpAll_len h2]; exact hl⟩
theorem itd_tup {K : PySem.W.Frag} {G : Hp} {a : Addr} {us : List V} {ds : List D} (h1 : SqT K G a us) (h2 : DrAll K G us ds) : ItD K G (Itt K a) ds := fun G1 H1 s1 s2 i => by
  have q := same_sqT (s1.trans s2) h1
  refine ⟨fun x hx => ?_, fun hl => ?_⟩
  · obtain ⟨v, e, d⟩ := dpAll_get h2 hx
    refine ⟨⟨us, v, q, e⟩, fun w H2 y => ?_⟩
    obtain ⟨e2, y⟩ := y
    subst e2
    have := y us q
    rw [e] at this
    cases this
    exact ⟨G1, Grow.refl s2, dp_same s1 d⟩
  · exact ⟨us, q, by rw [dpAll_len h2]; exact hl⟩
def rangeD (lo : Int) (n : Nat) : List D := (List.range n).map fun (i : Nat) => .int (lo + (i : Int))
theorem itd_range {K : PySem.W.Frag} {G : Hp} {lo : Int} {n : Nat} : ItD K G (Itr lo n) (rangeD lo n) := fun G1 H1 s1 s2 i => by
  refine ⟨fun x hx => ?_, fun hl => ?_⟩
  · simp only [rangeD, List.getElem?_map, Option.map_eq_some_iff] at hx
    obtain ⟨j, hj, rfl⟩ := hx
    have hj2 := List.getElem?_eq_some_iff.mp hj
    obtain ⟨h1, h2⟩ := hj2
    rw [List.getElem_range] at h2
    subst h2
    rw [List.length_range] at h1
    refine ⟨h1, fun v H2 y => ?_⟩
    obtain ⟨e2, y⟩ := y
    subst e2 y
    exact ⟨G1, Grow.refl s2, .int _⟩
  · simp only [rangeD, List.length_map, List.length_range] at hl
    exact hl
/-- a list, a tuple -/
def miSeq (m : ME) : MI := fun env P => m env fun x e1 => match x with
  | .list xs => P xs e1
  | _ => False
def miTup (m : ME) : MI := fun env P => m env fun x e1 => match x with
  | .tuple xs => P xs e1
  | _ => False
def strD (z : Str) : List D := z.cps.toList.map fun c => .str ⟨#[c]⟩
def miStr (m : ME) : MI := fun env P => m env fun x e1 => match x with
  | .str z => P (strD z) e1
  | _ => False
def miRng1 (a : MA) : MI := fun env P => a env fun as e1 => match as with
  | [.d (.int j)] => -(2 ^ 62) ≤ j ∧ j < 2 ^ 62 ∧ P (rangeD 0 j.toNat) e1
  | _ => False
def miRng2 (a : MA) : MI := fun env P => a env fun as e1 => match as with
  | [.d (.int i), .d (.int j)] => (-(2 ^ 62) ≤ i ∧ i < 2 ^ 62 ∧ -(2 ^ 62) ≤ j ∧ j < 2 ^ 62) ∧ P (rangeD i (j - i).toNat) e1
  | _ => False
section
variable {X : Cx} {tg l a b : Expr} {p pos : Pos} {me : ME} {m1 : MA} {ne n1 : Nat}
theorem gi_list (hl : GE X l ne me) : GI X tg l ne (miSeq me) := pi_imp (pi_list hl) fun σ H R h => by
  obtain ⟨W, B, G0, H0, G, env, P, R, hm, q⟩ := h
  refine ⟨W, B, G0, H0, G, env, _, R, hm, fun x e1 v G1 H1 p1 s1 R1 d1 => ?_⟩
  cases x with
  | list xs =>
    obtain ⟨a, us, rfl, h1, h2⟩ := dp_lst d1
    exact ⟨a, rfl, ⟨us, SqL.of (R1.pub _ _ h1)⟩, q _ _ _ _ _ p1 s1 R1 (itd_list h1 h2)⟩
  | _ => exact p1.elim
theorem gi_tup (hl : GE X l ne me) : GI X tg l ne (miTup me) := pi_imp (pi_tup hl) fun σ H R h => by
  obtain ⟨W, B, G0, H0, G, env, P, R, hm, q⟩ := h
  refine ⟨W, B, G0, H0, G, env, _, R, hm, fun x e1 v G1 H1 p1 s1 R1 d1 => ?_⟩
  cases x with
  | tuple xs =>
    obtain ⟨a, us, rfl, h1, h2⟩ := dp_tup d1
    exact ⟨a, rfl, ⟨us, same_sqT R1.pub h1⟩, q _ _ _ _ _ p1 s1 R1 (itd_tup h1 h2)⟩
  | _ => exact p1.elim
theorem gi_str (hl : GE X l ne me) : GI X tg l ne (miStr me) := pi_imp (pi_str hl) fun σ H R h => by
  obtain ⟨W, B, G0, H0, G, env, P, R, hm, q⟩ := h
  refine ⟨W, B, G0, H0, G, env, _, R, hm, fun x e1 v G1 H1 p1 s1 R1 d1 => ?_⟩
  cases x with
  | str z =>
    cases dp_str d1
    refine ⟨z, rfl, q _ _ _ _ _ p1 s1 R1 fun G2 H2 t1 t2 i => ⟨fun x hx => ?_, fun hl => ?_⟩⟩
    · simp only [strD, List.getElem?_map, Option.map_eq_some_iff] at hx
      obtain ⟨c, hc, rfl⟩ := hx
      have hc' : z.cps[i]? = some c := by rw [← hc, Array.getElem?_toList]
      refine ⟨?_, fun v H3 y => ?_⟩
      · obtain ⟨h1, _⟩ := Array.getElem?_eq_some_iff.mp hc'
        exact h1
      · obtain ⟨e2, c', e3, y⟩ := y
        subst e2
        rw [hc'] at e3
        cases e3
        subst y
        exact ⟨G2, Grow.refl t2, .str _⟩
    · simp only [strD, List.length_map, Array.length_toList] at hl
      exact hl
  | _ => exact p1.elim
theorem gi_range1 (hg : Gl X "range") (hm : X.mg "range" = none) (ha : GA X [a] n1 m1) (hs : starEach [a] X.env = [(false, eval a X.env)] := by rfl) : GI X tg (.Call (.Name "range" p) [a] [] pos) n1 (miRng1 m1) := pi_imp (pi_range1 hg hm ha hs) fun σ H R h => by
  obtain ⟨W, B, G0, H0, G, env, P, R, hm, q⟩ := h
  refine ⟨W, B, G0, H0, G, env, _, R, hm, fun as e1 vs G1 H1 p1 s1 R1 a1 => ?_⟩
  split at p1
  · cases a1 with
    | cons x y =>
      cases y
      cases dp_int x
      exact ⟨_, rfl, p1.1, p1.2.1, q _ _ _ _ _ p1.2.2 s1 R1 itd_range⟩
  · exact p1.elim
theorem gi_range2 (hg : Gl X "range") (hm : X.mg "range" = none) (ha : GA X [a, b] n1 m1) (hs : starEach [a, b] X.env = [(false, eval a X.env), (false, eval b X.env)] := by rfl) (hs2 : starEach [b] X.env = [(false, eval b X.env)] := by rfl) : GI X tg (.Call (.Name "range" p) [a, b] [] pos) n1 (miRng2 m1) := pi_imp (pi_range2 hg hm ha hs hs2) fun σ H R h => by
  obtain ⟨W, B, G0, H0, G, env, P, R, hm, q⟩ := h
  refine ⟨W, B, G0, H0, G, env, _, R, hm, fun as e1 vs G1 H1 p1 s1 R1 a1 => ?_⟩
  split at p1
  · cases a1 with
    | cons x y =>
      cases y with
      | cons y z =>
        cases z
        cases dp_int x
        cases dp_int y
        exact ⟨_, _, rfl, p1.1, q _ _ _ _ _ p1.2 s1 R1 itd_range⟩
  · exact p1.elim
end
end DL
namespace DL
open PySem PySem.Spec PyProof.Rows L2
/-! ### for -/
def sForL (g : MG) (b : MS) : List D → DEnds → DEnv → Prop
  | [], E, env => E.nx env
  | x :: xs, E, env => g x env fun e1 => b { nx := sForL g b xs E, rt := E.rt, bk := E.nx, ct := sForL g b xs E } e1
/-- nb: what a turn may draw at most, c: all turns together -/
def sForC (nb c : Nat) (i : MI) (g : MG) (b : MS) : MS := fun E env => i env fun ds e1 => ds.length * nb ≤ c ∧ sForL g b ds E e1
def sFor (i : MI) (g : MG) (b : MS) : MS := fun E env => i env fun ds e1 => sForL g b ds E e1
theorem turn_cost {n i nb : Nat} (h : i < n) : (n - i) * nb = (n - (i + 1)) * nb + nb := by
  have e : n - i = (n - (i + 1)) + 1 := by omega
  rw [e, Nat.add_mul, Nat.one_mul]
section
variable {X : Cx} {tg iter : Expr} {body : List Stmt} {mi : MI} {mg : MG} {ms : MS} {pos : Pos} {vs : List Nat} {ni nb : Nat}
theorem gs_forC (c : Nat) (hp : PassesOwn (model X.prog X.w) X.A X.env X.xe) (hc : X.calm = true) (hi : GI X tg iter ni mi) (hg : GG X tg vs mg) (hb : GSs X body nb ms)
    (hs : ∀ x, foldedSetIterable iter X.env x = pure x := by intro _; rfl) : GS X (.For tg iter body [] pos) (ni + c) (sForC nb c mi mg ms) := ps_imp (ps_for hp hc hi hg hb hs) fun D σ H h => by
  obtain ⟨W, B, G0, H0, G, env, E, R, hm, q⟩ := h
  refine ⟨W, B + c, G0, H0, G, env, _, R.le (by omega), hm, fun ds e1 J G1 H1 p1 s1 R1 it => ?_⟩
  obtain ⟨cost, p1⟩ := p1
  refine ⟨fun i m σ' H' => m = ds.length - i ∧ i ≤ ds.length ∧ ∃ G' e', Same G1 G' ∧ Rel X.K W (B + (ds.length - i) * nb) G0 H0 G' e' σ' H' ∧ sForL mg ms (ds.drop i) E e', ⟨ds.length, rfl, Nat.zero_le _, G1, e1, Same.refl _, R1.le (by rw [Nat.sub_zero]; omega), p1⟩, ?_⟩
  rintro i m σ' H' ⟨rfl, hi, G', e', s', R', p'⟩
  by_cases hlt : i < ds.length
  · have hx : ds[i]? = some ds[i] := List.getElem?_eq_getElem hlt
    have hd : ds.drop i = ds[i] :: ds.drop (i + 1) := List.drop_eq_getElem_cons hlt
    obtain ⟨hgo, hy⟩ := (it G' H' s' R'.pub i).1 _ hx
    rw [hd] at p'
    rw [turn_cost hlt] at R'
    refine .inr ⟨hgo, fun σ2 H2 => ∃ G2 e2, Same G1 G2 ∧ Rel X.K W (B + (ds.length - (i + 1)) * nb) G0 H0 G2 e2 σ2 H2 ∧ sForL mg ms (ds.drop (i + 1)) E e2, fun σ2 H2 hN => ⟨ds.length - (i + 1), by omega, rfl, hlt, hN⟩, fun v H2 y => ?_⟩
    obtain ⟨G2, g2, d2⟩ := hy v H2 y
    refine ⟨W, _, G0, H0, G2, e', _, _, R'.grow g2, d2, p', fun e3 σ3 G3 H3 p3 s3 R3 _ _ => ?_⟩
    have g3 : Same G' G3 := g2.eg.trans s3
    have sG : Same G G3 := (s1.trans s').trans g3
    refine ⟨W, B + (ds.length - (i + 1)) * nb, G0, H0, G3, e3, _, R3.le (by omega), p3, ⟨fun e4 σ4 G4 H4 p4 s4 R4 => ⟨G4, e4, (s'.trans g3).trans s4, R4, p4⟩, fun x e4 σ4 v G4 H4 p4 s4 R4 => q.rt x e4 σ4 v G4 H4 p4 (sG.trans s4) (R4.le (by omega)), fun e4 σ4 G4 H4 p4 s4 R4 => q.nx e4 σ4 G4 H4 p4 (sG.trans s4) (R4.le (by omega)), fun e4 σ4 G4 H4 p4 s4 R4 => ⟨G4, e4, (s'.trans g3).trans s4, R4, p4⟩⟩⟩
  · have e : i = ds.length := by omega
    subst e
    rw [List.drop_length] at p'
    exact .inl ⟨(it G' H' s' R'.pub _).2 (Nat.le_refl _), q.nx e' σ' G' H' p' (s1.trans s') (R'.le (by omega))⟩
theorem ts_imp {K : PySem.W.Frag} {n n' : Nat} {m m' : MS} (hn : n ≤ n') (h : ∀ E env, m' E env → m E env) : ∀ D σ H, tS K n' m' D σ H → tS K n m D σ H := fun D σ H ⟨W, B, G0, H0, G, env, E, R, hm, q⟩ => ⟨W, B, G0, H0, G, env, E, R.le (by omega), h _ _ hm, q⟩
end
/-! ### a list comprehension -/
def mLcL (g : MG) (tt : MT) (te : ME) (vs : List Nat) : List D → List D → DEnv → (List D → Prop) → Prop
  | [], acc, _, P => P acc
  | x :: xs, acc, env, P => g x (wipeE env vs) fun e1 => tt e1 fun b e2 => e2 = e1 ∧ match b with
    | true => te e2 fun y e3 => e3 = e2 ∧ acc.length < sizeLine ∧ mLcL g tt te vs xs (acc ++ [y]) env P
    | false => mLcL g tt te vs xs acc env P
def mYes : MT := fun env P => P true env
def mLcC (nb c : Nat) (i : MI) (g : MG) (tt : MT) (te : ME) (vs : List Nat) : MF := fun env P => i env fun ds e1 => ds.length * nb ≤ c ∧ noOwn e1 vs ∧ mLcL g tt te vs ds [] e1 fun ys => P ys e1
/-- own slots published ahead of it -/
def mPub (is : List Nat) (m : MF) : MF := fun env P => match is with
  | [] => m env P
  | i :: r => match env[i]? with
    | some (.mo none (.lst xs)) => mPub r m (env.set i (.d (.list xs))) P
    | _ => mPub r m env P
abbrev GTs (X : Cx) (es : List Expr) (n : Nat) (m : MT) : Prop := PTs X es (tDT X.K n m)
theorem pts_imp {X : Cx} {es : List Expr} {t t' : TT} (h : PTs X es t) (q : ∀ σ H Q, t' σ H Q → t σ H Q) : PTs X es t' := ⟨fun pins s σ H Q I z => h.run pins s σ H Q I (q σ H Q z)⟩
theorem gts_nil {X : Cx} : GTs X [] 0 mYes := pts_imp pts_nil fun σ H Q h => by
  obtain ⟨W, B, G0, H0, G, env, P, R, hm, q⟩ := h
  exact q _ _ _ _ hm (Same.refl _) R
theorem gts_one {X : Cx} {c : Expr} {m : MT} {n : Nat} (h : GT X c n m) : GTs X [c] n m := pts_one h
theorem lc_ok {K : PySem.W.Frag} {mi : MI} {mg : MG} {mt : MT} {me : ME} {vs : List Nat} {ni nt ne c : Nat} {σ : L2.St} {H : Hp} {Q : VK} (h : tF K (ni + c) (mLcC (nt + ne) c mi mg mt me vs) σ H Q) : tLc (tI K ni mi) (tG K vs mg) (tDT K nt mt) (tD K ne me) vs σ H Q := by
  obtain ⟨W, B, G0, H0, G, env, P, R, hm, q⟩ := h
  refine ⟨W, B + c, G0, H0, G, env, _, R.le (by omega), hm, fun ds e1 J G1 H1 p1 s1 R1 it A hA => ?_⟩
  obtain ⟨cost, no, p1⟩ := p1
  obtain ⟨R2, f1, f2, f3, f4⟩ := R1.fresh (o := .lst []) hA
  refine ⟨fun i m H' => m = ds.length - i ∧ i ≤ ds.length ∧ ∃ G' av acc, Same G1 G' ∧ Rel K W (B + (ds.length - i) * (nt + ne)) G0 H0 G' e1 σ H' ∧ H' A = some (.lst av) ∧ G' A = none ∧ (∀ (i : Nat) l w c, e1[i]? = some (.mo w c) → σ[i]? = some (some (.ref l)) → l ≠ A) ∧ DrAll K G' av acc ∧ mLcL mg mt me vs (ds.drop i) acc e1 (fun ys => P ys e1),
    ⟨ds.length, rfl, Nat.zero_le _, G1, [], [], Same.refl _, R2.le (by rw [Nat.sub_zero]; omega), upd_same, f1, f4, .nil, p1⟩, ?_⟩
  rintro i m H' ⟨rfl, hi, G', av, acc, s', R', hA', gA', oA', dA', p'⟩
  by_cases hlt : i < ds.length
  · have hx : ds[i]? = some ds[i] := List.getElem?_eq_getElem hlt
    have hd : ds.drop i = ds[i] :: ds.drop (i + 1) := List.drop_eq_getElem_cons hlt
    obtain ⟨hgo, hy⟩ := (it G' H' s' R'.pub i).1 _ hx
    rw [hd] at p'
    rw [turn_cost hlt] at R'
    refine .inr ⟨hgo, fun H2 => ∃ G' av acc, Same G1 G' ∧ Rel K W (B + (ds.length - (i + 1)) * (nt + ne)) G0 H0 G' e1 σ H2 ∧ H2 A = some (.lst av) ∧ G' A = none ∧ (∀ (i : Nat) l w c, e1[i]? = some (.mo w c) → σ[i]? = some (some (.ref l)) → l ≠ A) ∧ DrAll K G' av acc ∧ mLcL mg mt me vs (ds.drop (i + 1)) acc e1 (fun ys => P ys e1), fun H2 hN => ⟨ds.length - (i + 1), by omega, rfl, hlt, hN⟩, fun v H2 y => ?_⟩
    obtain ⟨G2, g2, d2⟩ := hy v H2 y
    have R3 := R'.grow g2
    have hA2 : H2 A = some (.lst av) := g2.eh _ _ hA'
    have gA2 : G2 A = none := by
      cases z : G2 A with
      | none => rfl
      | some o =>
        have := g2.new A o z gA'
        rw [hA'] at this
        cases this
    have hg0 : G0 A = none := R3.g0.free gA2
    have R4 := (R3.guard hA2 gA2 oA').wipe vs
    refine ⟨W, _, G0, upd H0 A (.lst av), G2, _, _, _, R4, d2, p', fun e3 σ3 G3 H3 p3 s3 R5 w1 w2 => ⟨?_, ?_⟩⟩
    · have idem : ∀ (τ : L2.St), wipe (wipe τ vs) vs = wipe τ vs := fun τ => by
        apply List.ext_getElem?
        intro n
        by_cases hn : n ∈ vs
        · have l1 : (wipe (wipe τ vs) vs)[n]? = (wipe τ vs)[n]? := by
            cases z1 : (wipe (wipe τ vs) vs)[n]? with
            | none =>
              cases z2 : (wipe τ vs)[n]? with
              | none => rfl
              | some y =>
                have b1 := (List.getElem?_eq_some_iff.mp z2).1
                rw [List.getElem?_eq_none_iff, wipe_length] at z1
                omega
            | some y =>
              cases y with
              | some u => exact absurd hn (wipe_some z1).2
              | none =>
                cases z2 : (wipe τ vs)[n]? with
                | none =>
                  have b1 := (List.getElem?_eq_some_iff.mp z1).1
                  rw [List.getElem?_eq_none_iff] at z2
                  rw [wipe_length] at b1
                  omega
                | some y2 =>
                  cases y2 with
                  | none => rfl
                  | some u => exact absurd hn (wipe_some z2).2
          exact l1
        · rw [wipe_out' hn]
      rw [w1, idem]
    · have g3 : Same G' G3 := g2.eg.trans s3
      refine ⟨W, B + (ds.length - (i + 1)) * (nt + ne) + ne, G0, upd H0 A (.lst av), G3, e3, _, R5.le (by omega), p3, fun b e4 G4 H4 p4 s4 R6 => ?_⟩
      obtain ⟨rfl, p4⟩ := p4
      have sT : Same G1 G4 := (s'.trans g3).trans s4
      have idemE : ∀ (τ : DEnv), wipeE (wipeE τ vs) vs = wipeE τ vs := fun τ => by
        apply List.ext_getElem?
        intro n
        by_cases hn : n ∈ vs
        · cases z1 : (wipeE (wipeE τ vs) vs)[n]? with
          | none =>
            rw [List.getElem?_eq_none_iff, wipeE_length] at z1
            exact (List.getElem?_eq_none_iff.mpr z1).symm
          | some y =>
            have b1 := (List.getElem?_eq_some_iff.mp z1).1
            rw [wipeE_length] at b1
            rw [List.getElem?_eq_getElem b1, wipeE_in hn z1, wipeE_in hn (List.getElem?_eq_getElem b1)]
        · rw [wipeE_out hn]
      have back : ∀ (B5 : Nat) (G5 H5 : Hp), Same G3 G5 → Rel K W B5 G0 (upd H0 A (.lst av)) G5 e4 σ3 H5 → Rel K W B5 G0 H0 G5 e1 σ H5 ∧ H5 A = some (.lst av) ∧ G5 A = none ∧ (∀ (i : Nat) l w c, e1[i]? = some (.mo w c) → σ[i]? = some (some (.ref l)) → l ≠ A) := fun B5 G5 H5 s5 R7 => by
        have R8 := R7.wipe vs
        have idem' : wipe (wipe σ vs) vs = wipe σ vs := by
          have := w1
          apply List.ext_getElem?
          intro n
          by_cases hn : n ∈ vs
          · cases z1 : (wipe (wipe σ vs) vs)[n]? with
            | none =>
              rw [List.getElem?_eq_none_iff, wipe_length] at z1
              exact (List.getElem?_eq_none_iff.mpr z1).symm
            | some y =>
              have b1 := (List.getElem?_eq_some_iff.mp z1).1
              rw [wipe_length] at b1
              rw [List.getElem?_eq_getElem b1]
              cases y with
              | some u => exact absurd hn (wipe_some z1).2
              | none =>
                cases z2 : (wipe σ vs)[n] with
                | none => rfl
                | some u => exact absurd hn (wipe_some ((List.getElem?_eq_getElem b1).trans (congrArg some z2))).2
          · rw [wipe_out' hn]
        rw [w1, idem', w2, idemE] at R8
        obtain ⟨R9, u1, u2, u3⟩ := R8.unguard f3 hg0 f2
        exact ⟨R3.unwipe no (s3.trans s5) R9, u1, u2, oA'⟩
      cases b with
      | true =>
        refine iteT ⟨W, B + (ds.length - (i + 1)) * (nt + ne), G0, upd H0 A (.lst av), G4, e4, _, R6, p4, fun y e5 u G5 H5 p5 s5 R7 d5 => ?_⟩
        obtain ⟨rfl, hl, p5⟩ := p5
        obtain ⟨Rb, b1, b2, b3⟩ := back _ G5 H5 (s4.trans s5) R7
        refine ⟨av, b1, by rw [dpAll_len dA']; exact hl, G5, av ++ [u], acc ++ [y], sT.trans s5, ?_, upd_same, b2, b3, dpAll_app (dpAll_same ((g3.trans s4).trans s5) dA') (dpAll_one d5), p5⟩
        refine { g0 := Rb.g0, pub := fun a o e => ?_, gm := Rb.gm, inv := W.loc _ H5 _ (fun a m => ?_) Rb.inv, fr := fun a o e m => ?_, pn := Rb.pn, len := Rb.len, slot := fun j e s h1 h2 => ?_, dis := Rb.dis }
        · have ne : a ≠ A := fun z => by
            subst z
            rw [b2] at e
            cases e
          rw [upd_ne ne]
          exact Rb.pub a o e
        · rw [upd_ne fun z => by subst z; exact f3 m]
        · have ne : a ≠ A := fun z => by
            subst z
            rw [f2] at e
            cases e
          rw [upd_ne ne]
          exact Rb.fr a o e m
        · have q := Rb.slot j e s h1 h2
          cases e with
          | mo w2 c2 =>
            obtain ⟨l2, ee, n2, o2, q1⟩ := q
            refine ⟨l2, ee, n2, o2, scok_later (Same.refl _) (fun u hu => ?_) q1⟩
            subst ee
            rw [upd_ne (b3 j l2 w2 c2 h1 h2)]
            exact hu
          | un => trivial
          | d x => exact q
          | hd => exact q
          | «at» _ => trivial
      | false =>
        obtain ⟨Rb, b1, b2, b3⟩ := back _ G4 H4 s4 (R6.le (Nat.le_add_right _ _))
        exact iteF ⟨G4, av, acc, sT, Rb, b1, b2, b3, dpAll_same (g3.trans s4) dA', p4⟩
  · have e : i = ds.length := by omega
    subst e
    rw [List.drop_length] at p'
    exact .inl ⟨(it G' H' s' R'.pub _).2 (Nat.le_refl _), q _ e1 A G' H' p' (s1.trans s') (R'.le (by omega)) ⟨av, hA', gA', f2, f3, oA', dA'⟩⟩
section
variable {X : Cx} {elt tg iter : Expr} {ifs : List Expr} {scope : Scope} {own : List (Str × Nat)} {pos spos py : Pos} {mi : MI} {mg : MG} {mt : MT} {me : ME} {ni nt ne : Nat}
theorem gf_lc (c : Nat) (hc : X.calm = true) (hN : X.N.Nodup) (hi : GI X tg iter ni mi) (ok : BlkOk X.N X.env.scope scope own)
    (hg : ∀ (s : Shared) (H : Hp) (C : Addr) (cl : List (Str × Addr)) (fp : List Addr), GG (X.blk s H scope (compEnvC scope cl C X.env) fp) tg (own.map (·.2)) mg) (ht : ∀ (s : Shared) (H : Hp) (C : Addr) (cl : List (Str × Addr)) (fp : List Addr), GTs (X.blk s H scope (compEnvC scope cl C X.env) fp) ifs nt mt)
    (he : ∀ (s : Shared) (H : Hp) (C : Addr) (cl : List (Str × Addr)) (fp : List Addr), GE (X.blk s H scope (compEnvC scope cl C X.env) fp) elt ne me) (hs : ∀ x, foldedSetIterable iter X.env x = pure x := by intro _; rfl) :
    GF X (.ListComp elt [⟨tg, iter, ifs, 0⟩] scope pos) (ni + c) (mLcC (nt + ne) c mi mg mt me (own.map (·.2))) := pe_imp (pe_lc hc hN hi ok hg ht he hs) fun σ H Q h => lc_ok h
theorem gs_setLc (c : Nat) {i : Nat} {y : Str} (hc : X.calm = true) (hN : X.N.Nodup) (hy : X.N[i]? = some y) (hyl : X.env.scope.names.lookup y = some .local)
    (hsw : swapsWith (.ListComp elt [⟨tg, iter, ifs, 0⟩] scope pos) (some (.Name y py)) spos.line X.env = pure true) (hi : GI X tg iter ni mi) (ok : BlkOk X.N X.env.scope scope own)
    (hg : ∀ (s : Shared) (H : Hp) (C : Addr) (cl : List (Str × Addr)) (fp : List Addr), GG (X.blk s H scope (compEnvC scope cl C X.env) fp) tg (own.map (·.2)) mg) (ht : ∀ (s : Shared) (H : Hp) (C : Addr) (cl : List (Str × Addr)) (fp : List Addr), GTs (X.blk s H scope (compEnvC scope cl C X.env) fp) ifs nt mt)
    (he : ∀ (s : Shared) (H : Hp) (C : Addr) (cl : List (Str × Addr)) (fp : List Addr), GE (X.blk s H scope (compEnvC scope cl C X.env) fp) elt ne me) (hs : ∀ x, foldedSetIterable iter X.env x = pure x := by intro _; rfl) :
    GS X (.Assign [.Name y py] (.ListComp elt [⟨tg, iter, ifs, 0⟩] scope pos) spos) (ni + c) (sSetF i (mLcC (nt + ne) c mi mg mt me (own.map (·.2)))) := ps_imp (ps_setLc hc hN hy hyl hsw hi ok hg ht he hs) fun D σ H h => by
  obtain ⟨W, B, G0, H0, G, env, E, R, hm, q⟩ := h
  refine lc_ok ⟨W, B, G0, H0, G, env, _, R, hm, fun xs e1 p G1 H1 p1 s1 R1 d1 => ?_⟩
  exact q.nx _ _ _ _ p1 s1 (R1.set_own d1)
end
end DL
namespace DL
open PySem PySem.Spec PyProof.Rows L2
/-! ### a def by data -/
theorem args_len {K : PySem.W.Frag} {W : Wk} {G : Hp} : ∀ {vs : List V} {as : List EV}, ArgsOk K W G vs as → vs.length = as.length
  | _, _, .nil => rfl
  | _, _, .cons _ t => congrArg (· + 1) (args_len t)
theorem args_get {K : PySem.W.Frag} {W : Wk} {G : Hp} : ∀ {vs : List V} {as : List EV} {i : Nat} {a : EV}, ArgsOk K W G vs as → as[i]? = some a → ∃ v, vs[i]? = some v ∧ ArgOk K W G a v
  | _, _, 0, _, .cons a _, h => by
    cases h
    exact ⟨_, rfl, a⟩
  | _, _, i + 1, _, .cons _ t, h => by
    obtain ⟨v, e, q⟩ := args_get (i := i) t h
    exact ⟨v, e, q⟩
def env0 (N : List Str) (as : List EV) : DEnv := as ++ List.replicate (N.length - as.length) .un
theorem rel_start {K : PySem.W.Frag} {W : Wd} {B : Nat} {G H : Hp} {vs : List V} {as : List EV} (N : List Str) (r : RW W B G H G H) (a : ArgsOk K W.dk G vs as) : Rel K W B G H G (env0 N as) (L2.start N vs) H := by
  have hl := args_len a
  have key : ∀ (i : Nat) e s, (env0 N as)[i]? = some e → (L2.start N vs)[i]? = some s → e = .un ∨ ∃ v, s = some v ∧ ArgOk K W.dk G e v := fun i e s h1 h2 => by
    unfold env0 at h1
    unfold L2.start at h2
    by_cases hi : i < as.length
    · rw [List.getElem?_append_left hi] at h1
      rw [List.getElem?_append_left (by rw [List.length_map]; omega), List.getElem?_map] at h2
      obtain ⟨v, e1, q⟩ := args_get a h1
      rw [e1] at h2
      cases h2
      exact .inr ⟨v, rfl, q⟩
    · rw [List.getElem?_append_right (by omega)] at h1
      obtain ⟨h3, h4⟩ := List.getElem?_eq_some_iff.mp h1
      rw [List.getElem_replicate] at h4
      exact .inl h4.symm
  refine { r with len := ?_, slot := fun i e s h1 h2 => ?_, dis := fun i j wi ci wj cj l ne h1 h2 h3 => ?_ }
  · unfold env0 L2.start
    rw [List.length_append, List.length_append, List.length_map, List.length_replicate, List.length_replicate, hl]
  · rcases key i e s h1 h2 with rfl | ⟨v, rfl, q⟩
    · trivial
    · cases e with
      | un => trivial
      | d x => exact ⟨v, rfl, q⟩
      | mo w c => exact q.elim
      | «at» _ => trivial
      | hd => exact ⟨congrArg some q.1, q.2⟩
  · rcases key i _ _ h1 h3 with e | ⟨v, _, q⟩
    · cases e
    · exact q.elim
/-! ### operators on data -/
def dAdd : D → D → (D → Prop) → Prop
  | .int i, .int j, P => P (.int (i + j))
  | .str a, .str b, P => a.length + b.length ≤ sizeLine ∧ P (.str (a ++ b))
  | .list a, .list b, P => a.length + b.length ≤ sizeLine ∧ P (.list (a ++ b))
  | .tuple a, .tuple b, P => a.length + b.length ≤ sizeLine ∧ P (.tuple (a ++ b))
  | _, _, _ => False
def dSub : D → D → (D → Prop) → Prop
  | .int i, .int j, P => P (.int (i - j))
  | _, _, _ => False
/-- a text, a list times a number -/
def dMul : D → D → (D → Prop) → Prop
  | .int i, .int j, P => CMul i j ∧ P (.int (i * j))
  | .str z, .int k, P => MulOk z k ∧ P (.str (Txt.mul z k))
  | .list xs, .int k, P => (-(2 ^ 63) ≤ k ∧ k < 2 ^ 63 ∧ xs.length * k.toNat ≤ sizeLine) ∧ P (.list (List.replicate k.toNat xs).flatten)
  | _, _, _ => False
def dFdiv : D → D → (D → Prop) → Prop
  | .int i, .int j, P => CDiv i j ∧ P (.int (i / j))
  | _, _, _ => False
def dMod : D → D → (D → Prop) → Prop
  | .int i, .int j, P => 0 < j ∧ P (.int (i % j))
  | _, _, _ => False
def dPow : D → D → (D → Prop) → Prop
  | .int i, .int j, P => CPow i j ∧ P (.int (i ^ j.toNat))
  | _, _, _ => False
/-- an item -/
def dIx : D → D → (D → Prop) → Prop
  | .list xs, .int i, P => ∃ x, atI xs i = some x ∧ P x
  | .tuple xs, .int i, P => ∃ x, atI xs i = some x ∧ P x
  | .str z, .int i, P => z.length ≤ sizeLine ∧ ∃ c, atI z.cps.toList i = some c ∧ P (.str ⟨#[c]⟩)
  | _, _, _ => False
theorem dpAll_atI {K : PySem.W.Frag} {G : Hp} {vs : List V} {xs : List D} {i : Int} {x : D} (h : DrAll K G vs xs) (e : atI xs i = some x) : ∃ v, atI vs i = some v ∧ Dr K G v x := by
  unfold atI at e ⊢
  rw [dpAll_len h]
  cases z : ixN xs.length i with
  | none => rw [z] at e; cases e
  | some j =>
    rw [z] at e
    exact dpAll_get (i := j) h e
theorem dpAll_flat {K : PySem.W.Frag} {G : Hp} {vs : List V} {xs : List D} (h : DrAll K G vs xs) : ∀ n : Nat, DrAll K G (List.replicate n vs).flatten (List.replicate n xs).flatten
  | 0 => .nil
  | n + 1 => by
    rw [List.replicate_succ, List.replicate_succ, List.flatten_cons, List.flatten_cons]
    exact dpAll_app h (dpAll_flat h n)
section
variable {X : Cx}
theorem od_add : OpR X (binaryOp .Add) (rD2 X.K dAdd) := by
  intro pins s σ H x y v u Q I rx ry h
  obtain ⟨G, dx, dy, P, sG, d1, d2, hf, q⟩ := h
  unfold dAdd at hf
  split at hf
  · cases dp_int d1
    cases dp_int d2
    exact op_add pins s σ H _ _ v u Q I rx ry ⟨_, _, rfl, rfl, q _ _ G H hf (Grow.refl sG) (.int _)⟩
  · cases dp_str d1
    cases dp_str d2
    exact op_add_str pins s σ H _ _ v u Q I rx ry ⟨_, _, rfl, rfl, hf.1, q _ _ G H hf.2 (Grow.refl sG) (.str _)⟩
  · obtain ⟨a, us, rfl, h1, h2⟩ := dp_lst d1
    obtain ⟨b, ws, rfl, h3, h4⟩ := dp_lst d2
    refine op_cat pins s σ H _ _ v u Q I rx ry ⟨a, b, us, ws, rfl, rfl, sG _ _ h1, sG _ _ h3, by rw [dpAll_len h2, dpAll_len h4]; exact hf.1, fun p hp => ?_⟩
    exact q _ _ _ _ hf.2 (Grow.new1 sG hp) (.lst upd_same (dpAll_same (same_upd (sG.free hp)) (dpAll_app h2 h4)))
  · obtain ⟨a, us, rfl, h1, h2⟩ := dp_tup d1
    obtain ⟨b, ws, rfl, h3, h4⟩ := dp_tup d2
    refine op_catA pins s σ H _ _ v u Q I rx ry ⟨a, b, us, ws, rfl, rfl, same_sqT sG h1, same_sqT sG h3, by rw [dpAll_len h2, dpAll_len h4]; exact hf.1, fun e => ?_, fun e e2 => ?_, fun _ _ p hp => ?_⟩
    · subst e
      cases h2
      exact q _ _ G H hf.2 (Grow.refl sG) d2
    · subst e2
      cases h4
      refine q _ _ G H hf.2 (Grow.refl sG) ?_
      rw [List.append_nil]
      exact d1
    · exact q _ _ _ _ hf.2 (Grow.new1 sG hp) (.tup (SqT.of upd_same) (dpAll_same (same_upd (sG.free hp)) (dpAll_app h2 h4)))
  · exact hf.elim
theorem od_sub : OpR X (binaryOp .Sub) (rD2 X.K dSub) := by
  intro pins s σ H x y v u Q I rx ry h
  obtain ⟨G, dx, dy, P, sG, d1, d2, hf, q⟩ := h
  unfold dSub at hf
  split at hf
  · cases dp_int d1
    cases dp_int d2
    exact op_sub pins s σ H _ _ v u Q I rx ry ⟨_, _, rfl, rfl, q _ _ G H hf (Grow.refl sG) (.int _)⟩
  · exact hf.elim
theorem op_mul_str : OpR X (binaryOp .Mult) (fun x y H Q => ∃ z k, x = .str z ∧ y = .int k ∧ MulOk z k ∧ Q (.str (Txt.mul z k)) H) := by
  intro pins s σ H x y v u Q I rx ry h
  obtain ⟨z, k, rfl, rfl, ok, q⟩ := h
  obtain ⟨t, rfl⟩ := rx
  obtain ⟨t2, rfl⟩ := ry
  exact SB.mul ok fun t' tk => ⟨.str _, H, I.tok tk, ⟨_, rfl⟩, q⟩
theorem od_mul : OpR X (binaryOp .Mult) (rD2 X.K dMul) := by
  intro pins s σ H x y v u Q I rx ry h
  obtain ⟨G, dx, dy, P, sG, d1, d2, hf, q⟩ := h
  unfold dMul at hf
  split at hf
  · cases dp_int d1
    cases dp_int d2
    exact op_mul pins s σ H _ _ v u Q I rx ry ⟨_, _, rfl, rfl, hf.1, q _ _ G H hf.2 (Grow.refl sG) (.int _)⟩
  · cases dp_str d1
    cases dp_int d2
    exact op_mul_str pins s σ H _ _ v u Q I rx ry ⟨_, _, rfl, rfl, hf.1, q _ _ G H hf.2 (Grow.refl sG) (.str _)⟩
  · obtain ⟨a, us, rfl, h1, h2⟩ := dp_lst d1
    cases dp_int d2
    refine op_rep pins s σ H _ _ v u Q I rx ry ⟨a, _, us, rfl, rfl, sG _ _ h1, hf.1.1, hf.1.2.1, by rw [dpAll_len h2]; exact hf.1.2.2, fun p hp => ?_⟩
    exact q _ _ _ _ hf.2 (Grow.new1 sG hp) (.lst upd_same (dpAll_same (same_upd (sG.free hp)) (dpAll_flat h2 _)))
  · exact hf.elim
theorem od_fdiv : OpR X (binaryOp .FloorDiv) (rD2 X.K dFdiv) := by
  intro pins s σ H x y v u Q I rx ry h
  obtain ⟨G, dx, dy, P, sG, d1, d2, hf, q⟩ := h
  unfold dFdiv at hf
  split at hf
  · cases dp_int d1
    cases dp_int d2
    exact op_fdiv pins s σ H _ _ v u Q I rx ry ⟨_, _, rfl, rfl, hf.1, q _ _ G H hf.2 (Grow.refl sG) (.int _)⟩
  · exact hf.elim
theorem od_mod : OpR X (binaryOp .Mod) (rD2 X.K dMod) := by
  intro pins s σ H x y v u Q I rx ry h
  obtain ⟨G, dx, dy, P, sG, d1, d2, hf, q⟩ := h
  unfold dMod at hf
  split at hf
  · cases dp_int d1
    cases dp_int d2
    exact op_mod pins s σ H _ _ v u Q I rx ry ⟨_, _, rfl, rfl, hf.1, q _ _ G H hf.2 (Grow.refl sG) (.int _)⟩
  · exact hf.elim
theorem od_pow : OpR X (binaryOp .Pow) (rD2 X.K dPow) := by
  intro pins s σ H x y v u Q I rx ry h
  obtain ⟨G, dx, dy, P, sG, d1, d2, hf, q⟩ := h
  unfold dPow at hf
  split at hf
  · cases dp_int d1
    cases dp_int d2
    exact op_pow pins s σ H _ _ v u Q I rx ry ⟨_, _, rfl, rfl, hf.1, q _ _ G H hf.2 (Grow.refl sG) (.int _)⟩
  · exact hf.elim
theorem od_ix : IxR X (rD2 X.K dIx) := by
  intro value slice pins s σ H x y v u Q I rx ry h hs
  obtain ⟨G, dx, dy, P, sG, d1, d2, hf, q⟩ := h
  unfold dIx at hf
  split at hf
  · obtain ⟨a, us, rfl, h1, h2⟩ := dp_lst d1
    cases dp_int d2
    obtain ⟨z, e, hP⟩ := hf
    obtain ⟨w, e2, d3⟩ := dpAll_atI h2 e
    exact ix_list value slice pins s σ H _ _ v u Q I rx ry ⟨a, us, _, w, rfl, rfl, SqL.of (sG _ _ h1), e2, q _ _ G H hP (Grow.refl sG) d3⟩ hs
  · obtain ⟨a, us, rfl, h1, h2⟩ := dp_tup d1
    cases dp_int d2
    obtain ⟨z, e, hP⟩ := hf
    obtain ⟨w, e2, d3⟩ := dpAll_atI h2 e
    exact ix_tup value slice pins s σ H _ _ v u Q I rx ry ⟨a, us, _, w, rfl, rfl, same_sqT sG h1, e2, q _ _ G H hP (Grow.refl sG) d3⟩ hs
  · cases dp_str d1
    cases dp_int d2
    obtain ⟨hz, c, e, hP⟩ := hf
    exact ix_str value slice pins s σ H _ _ v u Q I rx ry ⟨_, _, c, rfl, rfl, hz, e, q _ _ G H hP (Grow.refl sG) (.str _)⟩ hs
  · exact hf.elim
def dNeg : D → (D → Prop) → Prop
  | .int i, P => P (.int (-i))
  | _, _ => False
theorem ud_neg : UnR X (unaryOp .USub) (rD1 X.K dNeg) := by
  intro pins s σ H x v Q I rx h
  obtain ⟨G, dx, P, sG, d1, hf, q⟩ := h
  unfold dNeg at hf
  split at hf
  · cases dp_int d1
    exact un_neg pins s σ H _ v Q I rx ⟨_, rfl, q _ _ G H hf (Grow.refl sG) (.int _)⟩
  · exact hf.elim
/-! ### comparisons of data -/
def okEq (x : D) : Bool := SeqAt.shaped x && noDict x
def cEq : D → D → (Bool → Prop) → Prop
  | .int i, .int j, P => P (decide (i = j))
  | .str i, .str j, P => P (decide (i = j))
  | .bool i, .bool j, P => P (decide (i = j))
  | .none, .none, P => P true
  | .list xs, .list [], P => P xs.isEmpty
  | x, y, P => okEq x = true ∧ okEq y = true ∧ P (PyData.eqv x y)
def cNe : D → D → (Bool → Prop) → Prop := fun x y P => cEq x y fun b => P (!b)
def cI (f : Int → Int → Bool) : D → D → (Bool → Prop) → Prop
  | .int i, .int j, P => P (f i j)
  | _, _, _ => False
theorem dec_V_int {i j : Int} : decide (V.int i = V.int j) = decide (i = j) := decide_eq_decide.mpr ⟨fun h => V.int.inj h, fun h => congrArg _ h⟩
theorem dec_V_str {i j : Str} : decide (V.str i = V.str j) = decide (i = j) := decide_eq_decide.mpr ⟨fun h => V.str.inj h, fun h => congrArg _ h⟩
theorem dec_V_bl {i j : Bool} : decide (V.bl i = V.bl j) = decide (i = j) := decide_eq_decide.mpr ⟨fun h => V.bl.inj h, fun h => congrArg _ h⟩
theorem list_at {pins : List (Addr × Obj)} {σ : L2.St} {H : Hp} {s : Shared} {a : Addr} {us : List V} (I : L2.Inv X pins σ H s) (h : H a = some (.lst us)) : ∃ its : Array Value, s.heap.IsList a its ∧ its.size = us.length := by
  obtain ⟨its, r, pl, _⟩ := I.list (SqL.of (K := X.K) h)
  exact ⟨its.toArray, pl.isList, by rw [List.size_toArray]; exact r.length.symm⟩
theorem all_empty {K : PySem.W.Frag} {G : Hp} {vs : List V} {xs : List D} (h : DrAll K G vs xs) : vs.isEmpty = xs.isEmpty := by
  cases h <;> rfl
theorem eq_nil_list {pins : List (Addr × Obj)} {σ : L2.St} {H : Hp} {s : Shared} {a b : Addr} {us : List V} (hu : X.A.units < cLine) (I : L2.Inv X pins σ H s) (h1 : H a = some (.lst us)) (h2 : H b = some (.lst [])) :
    SeqAt.RcAt X.A s (.ref a) (.ref b) us.isEmpty ∧ SeqAt.RcNeAt X.A s (.ref a) (.ref b) (!us.isEmpty) := by
  obtain ⟨its, l1, z1⟩ := list_at I h1
  obtain ⟨it2, l2, z2⟩ := list_at I h2
  cases us with
  | nil =>
    have e1 : its.size = 0 := z1
    have e2 : it2.size = 0 := z2
    have r1 := SeqAt.RcAt.lists (A := X.A) (e := fun _ => true) l1 l2 (by omega) hu (fun j h _ => absurd h (by omega))
    have r2 := SeqAt.RcNeAt.lists (A := X.A) (e := fun _ => true) l1 l2 (by omega) hu (fun j h _ => absurd h (by omega))
    rw [e1] at r1 r2
    exact ⟨r1, r2⟩
  | cons u r =>
    have ne : (its.size != it2.size) = true := by
      rw [z1, z2]
      rfl
    exact ⟨SeqAt.RcAt.lists_lengths l1 l2 ne hu, SeqAt.RcNeAt.lists_lengths l1 l2 ne hu⟩
theorem od_eq (hu : X.A.units + 64 < cLine) : OpR X (compareOp .Eq) (rDC2 X.K cEq) := by
  intro pins s σ H x y v u Q I rx ry h
  obtain ⟨G, dx, dy, P, sG, d1, d2, hf, q⟩ := h
  unfold cEq at hf
  split at hf
  · cases dp_int d1
    cases dp_int d2
    exact op_eq pins s σ H _ _ v u Q I rx ry ⟨rfl, by rw [dec_V_int]; exact q _ hf⟩
  · cases dp_str d1
    cases dp_str d2
    exact op_eq pins s σ H _ _ v u Q I rx ry ⟨rfl, by rw [dec_V_str]; exact q _ hf⟩
  · cases dp_bl d1
    cases dp_bl d2
    exact op_eq pins s σ H _ _ v u Q I rx ry ⟨rfl, by rw [dec_V_bl]; exact q _ hf⟩
  · cases dp_non d1
    cases dp_non d2
    exact op_eq pins s σ H _ _ v u Q I rx ry ⟨rfl, q _ hf⟩
  · obtain ⟨a, us, rfl, h1, h2⟩ := dp_lst d1
    obtain ⟨b, ws, rfl, h3, h4⟩ := dp_lst d2
    cases h4
    cases rx
    cases ry
    have e := all_empty h2
    exact (eq_nil_list (by omega) I (sG _ _ h1) (sG _ _ h3)).1 _ _ _ _ ⟨.bl _, H, I, rfl, q _ (by rw [e]; exact hf)⟩
  · obtain ⟨h1, h2, hP⟩ := hf
    simp only [okEq, Bool.and_eq_true] at h1 h2
    exact op_eqD hu pins s σ H _ _ v u Q I rx ry ⟨dx, dy, dr_dp (dp_same sG d1) h1.2, dr_dp (dp_same sG d2) h2.2, h1.1, h2.1, q _ hP⟩
theorem od_ne (hu : X.A.units + 64 < cLine) : OpR X (compareOp .NotEq) (rDC2 X.K cNe) := by
  intro pins s σ H x y v u Q I rx ry h
  obtain ⟨G, dx, dy, P, sG, d1, d2, hf, q⟩ := h
  unfold cNe cEq at hf
  split at hf
  · cases dp_int d1
    cases dp_int d2
    exact op_ne pins s σ H _ _ v u Q I rx ry ⟨rfl, by rw [dec_V_int]; exact q _ hf⟩
  · cases dp_str d1
    cases dp_str d2
    exact op_ne pins s σ H _ _ v u Q I rx ry ⟨rfl, by rw [dec_V_str]; exact q _ hf⟩
  · cases dp_bl d1
    cases dp_bl d2
    exact op_ne pins s σ H _ _ v u Q I rx ry ⟨rfl, by rw [dec_V_bl]; exact q _ hf⟩
  · cases dp_non d1
    cases dp_non d2
    exact op_ne pins s σ H _ _ v u Q I rx ry ⟨rfl, q _ hf⟩
  · obtain ⟨a, us, rfl, h1, h2⟩ := dp_lst d1
    obtain ⟨b, ws, rfl, h3, h4⟩ := dp_lst d2
    cases h4
    cases rx
    cases ry
    have e := all_empty h2
    exact (eq_nil_list (by omega) I (sG _ _ h1) (sG _ _ h3)).2 _ _ _ _ ⟨.bl _, H, I, rfl, q _ (by rw [e]; exact hf)⟩
  · obtain ⟨h1, h2, hP⟩ := hf
    simp only [okEq, Bool.and_eq_true] at h1 h2
    exact op_neD hu pins s σ H _ _ v u Q I rx ry ⟨_, _, dr_dp (dp_same sG d1) h1.2, dr_dp (dp_same sG d2) h2.2, h1.1, h2.1, q _ hP⟩
theorem od_cI {op : CmpOp} {f : Int → Int → Bool} (ho : OpR X (compareOp op) (rI0 fun i j => .bl (f i j))) : OpR X (compareOp op) (rDC2 X.K (cI f)) := by
  intro pins s σ H x y v u Q I rx ry h
  obtain ⟨G, dx, dy, P, sG, d1, d2, hf, q⟩ := h
  unfold cI at hf
  split at hf
  · cases dp_int d1
    cases dp_int d2
    exact ho pins s σ H _ _ v u Q I rx ry ⟨_, _, rfl, rfl, q _ hf⟩
  · exact hf.elim
def cLt := cI fun i j => decide (i < j)
def cLe := cI fun i j => decide (i ≤ j)
def cGt := cI fun i j => decide (j < i)
def cGe := cI fun i j => decide (j ≤ i)
theorem od_lt : OpR X (compareOp .Lt) (rDC2 X.K cLt) := od_cI op_lt
theorem od_le : OpR X (compareOp .LtE) (rDC2 X.K cLe) := od_cI op_le
theorem od_gt : OpR X (compareOp .Gt) (rDC2 X.K cGt) := od_cI op_gt
theorem od_ge : OpR X (compareOp .GtE) (rDC2 X.K cGe) := od_cI op_ge
def cIsN : D → D → (Bool → Prop) → Prop
  | .none, .none, P => P true
  | .dict _, .none, _ => False
  | _, .none, P => P false
  | _, _, _ => False
def cNotN : D → D → (Bool → Prop) → Prop := fun x y P => cIsN x y fun b => P (!b)
theorem isN_dec {K : PySem.W.Frag} {G : Hp} {v : V} {x : D} {P : Bool → Prop} (d : Dr K G v x) (h : cIsN x .none P) : P (decide (v = .non)) := by
  cases d <;> simpa [cIsN] using h
theorem od_isN : OpR X (compareOp .Is) (rDC2 X.K cIsN) := by
  intro pins s σ H x y v u Q I rx ry h
  obtain ⟨G, dx, dy, P, sG, d1, d2, hf, q⟩ := h
  cases dy with
  | none =>
    cases dp_non d2
    exact op_isN pins s σ H _ _ v u Q I rx ry ⟨rfl, q _ (isN_dec d1 hf)⟩
  | _ => cases dx <;> exact hf.elim
theorem od_notN : OpR X (compareOp .IsNot) (rDC2 X.K cNotN) := by
  intro pins s σ H x y v u Q I rx ry h
  obtain ⟨G, dx, dy, P, sG, d1, d2, hf, q⟩ := h
  cases dy with
  | none =>
    cases dp_non d2
    exact op_notN pins s σ H _ _ v u Q I rx ry ⟨rfl, q _ (isN_dec (P := fun b => P (!b)) d1 hf)⟩
  | _ => cases dx <;> exact hf.elim
/-- in -/
def flatD : D → Bool
  | .none => true
  | .bool _ => true
  | .int _ => true
  | .str _ => true
  | _ => false
def inD (x : D) (xs : List D) : Bool := xs.any fun y => PyData.eqv y x
def cIn : D → D → (Bool → Prop) → Prop
  | x, .list ys, P => (flatD x = true ∧ ys.all flatD = true) ∧ P (inD x ys)
  | x, .tuple ys, P => (flatD x = true ∧ ys.all flatD = true) ∧ P (inD x ys)
  | .str w, .str z, P => match w.cps.toList with
    | [c] => P (decide (c ∈ z.cps.toList))
    | _ => P (!(Builtin.Str.occurrences z w 0 z.length 1).isEmpty)
  | _, _, _ => False
def cNotIn : D → D → (Bool → Prop) → Prop := fun x y P => cIn x y fun b => P (!b)
theorem flat_v {K : PySem.W.Frag} {G : Hp} {v : V} {x : D} (d : Dr K G v x) (h : flatD x = true) : flatV v = true := by
  cases d <;> first | rfl | (simp [flatD] at h)
theorem eq_v {K : PySem.W.Frag} {G : Hp} {v u : V} {x y : D} (d : Dr K G v x) (d2 : Dr K G u y) (h : flatD x = true) (h2 : flatD y = true) : eqV v u = PyData.eqv x y := by
  cases d <;> first | (simp [flatD] at h; done) | (cases d2 <;> first | (simp [flatD] at h2; done) | simp [eqV, PyData.eqv])
theorem in_v {K : PySem.W.Frag} {G : Hp} {v : V} {x : D} (d : Dr K G v x) (h : flatD x = true) : ∀ {vs : List V} {xs : List D}, DrAll K G vs xs → xs.all flatD = true → vs.all flatV = true ∧ inV v vs = inD x xs
  | _, _, .nil, _ => ⟨rfl, rfl⟩
  | _, _, .cons a t, hf => by
    rw [List.all_cons, Bool.and_eq_true] at hf
    obtain ⟨h1, h2⟩ := in_v d h t hf.2
    refine ⟨by rw [List.all_cons, flat_v a hf.1, h1]; rfl, ?_⟩
    unfold inV inD at h2 ⊢
    rw [List.any_cons, List.any_cons, h2, eq_v a d hf.1 h]
theorem in_str_ok {w z : Str} {P : Bool → Prop} (hf : match w.cps.toList with
    | [c] => P (decide (c ∈ z.cps.toList))
    | _ => P (!(Builtin.Str.occurrences z w 0 z.length 1).isEmpty)) : (∃ c, w = ⟨#[c]⟩ ∧ P (decide (c ∈ z.cps.toList))) ∨ P (!(Builtin.Str.occurrences z w 0 z.length 1).isEmpty) := by
  split at hf
  · rename_i c e
    refine .inl ⟨c, ?_, hf⟩
    cases w with
    | mk arr =>
      cases arr with
      | mk l =>
        have e' : l = [c] := e
        rw [e']
  · exact .inr hf
theorem od_in : OpR X (compareOp .In) (rDC2 X.K cIn) := by
  intro pins s σ H x y v u Q I rx ry h
  obtain ⟨G, dx, dy, P, sG, d1, d2, hf, q⟩ := h
  unfold cIn at hf
  split at hf
  · obtain ⟨a, us, rfl, h1, h2⟩ := dp_lst d2
    obtain ⟨i1, i2⟩ := in_v d1 hf.1.1 h2 hf.1.2
    exact op_in_seq pins s σ H _ _ v u Q I rx ry ⟨a, us, rfl, .inl (SqL.of (sG _ _ h1)), flat_v d1 hf.1.1, i1, by rw [i2]; exact q _ hf.2⟩
  · obtain ⟨a, us, rfl, h1, h2⟩ := dp_tup d2
    obtain ⟨i1, i2⟩ := in_v d1 hf.1.1 h2 hf.1.2
    exact op_in_seq pins s σ H _ _ v u Q I rx ry ⟨a, us, rfl, .inr (same_sqT sG h1), flat_v d1 hf.1.1, i1, by rw [i2]; exact q _ hf.2⟩
  · cases dp_str d1
    cases dp_str d2
    rcases in_str_ok hf with ⟨c, rfl, hf⟩ | hf
    · exact op_in_sign pins s σ H _ _ v u Q I rx ry ⟨c, _, rfl, rfl, q _ hf⟩
    · exact op_in_str pins s σ H _ _ v u Q I rx ry ⟨_, _, rfl, rfl, q _ hf⟩
  · exact hf.elim
theorem od_notIn : OpR X (compareOp .NotIn) (rDC2 X.K cNotIn) := by
  intro pins s σ H x y v u Q I rx ry h
  obtain ⟨G, dx, dy, P, sG, d1, d2, hf, q⟩ := h
  unfold cNotIn cIn at hf
  split at hf
  · obtain ⟨a, us, rfl, h1, h2⟩ := dp_lst d2
    obtain ⟨i1, i2⟩ := in_v d1 hf.1.1 h2 hf.1.2
    exact op_notIn_seq pins s σ H _ _ v u Q I rx ry ⟨a, us, rfl, .inl (SqL.of (sG _ _ h1)), flat_v d1 hf.1.1, i1, by rw [i2]; exact q _ hf.2⟩
  · obtain ⟨a, us, rfl, h1, h2⟩ := dp_tup d2
    obtain ⟨i1, i2⟩ := in_v d1 hf.1.1 h2 hf.1.2
    exact op_notIn_seq pins s σ H _ _ v u Q I rx ry ⟨a, us, rfl, .inr (same_sqT sG h1), flat_v d1 hf.1.1, i1, by rw [i2]; exact q _ hf.2⟩
  · cases dp_str d1
    cases dp_str d2
    rcases in_str_ok (P := fun b => P (!b)) hf with ⟨c, rfl, hf⟩ | hf
    · exact op_notIn_sign pins s σ H _ _ v u Q I rx ry ⟨c, _, rfl, rfl, q _ hf⟩
    · exact op_notIn_str pins s σ H _ _ v u Q I rx ry ⟨_, _, rfl, rfl, q _ hf⟩
  · exact hf.elim
end
end DL
namespace DL
open PySem PySem.Spec PyProof.Rows L2
/-! ### promises where no repr is under way -/
structure Rm (k : Nat) (A : Around) : Prop where
  rm : Room k A
  gd : A.guards = some []
theorem Rm.mono {j k : Nat} {A : Around} (r : Rm k A) (h : j ≤ k) : Rm j A := ⟨r.rm.mono h, r.gd⟩
structure FnG (P : Program) (w : World) (K : PySem.W.Frag) (mg : Str → Option Value) (base : Heap) (CX : CXT) (k : Nat) (f : Addr) (fd : FuncData) (ps : List Str) (sp : Sp) : Prop where
  len : ∀ vs H Q E, sp vs H Q E → vs.length = ps.length
  run : ∀ (A : Around) (st : List Env) (s : Shared) (H : Hp) (args : Args) (us : List Value) (vs : List V) (Q : VK) (E : XK), Rm k A → Env0 P w K mg base A st s H →
    BindsTo s fd args (ps.zip us) → Vals vs us → sp vs H Q E → codeAny (model P w) A (.call (.ref f) args) (CR CX st P w H s Q E) s
section
variable {P : Program} {w : World} {K : PySem.W.Frag} {mg : Str → Option Value} {base : Heap} {CX : CXT} {k : Nat} {f : Addr} {fd : FuncData} {ps : List Str} {sp : Sp}
theorem FnG.of (F : FnOk P w K mg base CX k f fd ps sp) : FnG P w K mg base CX k f fd ps sp := ⟨F.len, fun A st s H args us vs Q E r => F.run A st s H args us vs Q E r.rm⟩
theorem FnG.mono {j : Nat} (F : FnG P w K mg base CX j f fd ps sp) (h : j ≤ k) : FnG P w K mg base CX k f fd ps sp := ⟨F.len, fun A st s H args us vs Q E r => F.run A st s H args us vs Q E (r.mono h)⟩
theorem FnG.imp {sp' : Sp} (F : FnG P w K mg base CX k f fd ps sp) (h : ∀ vs H Q E, sp' vs H Q E → sp vs H Q E) : FnG P w K mg base CX k f fd ps sp' :=
  ⟨fun vs H Q E q => F.len vs H Q E (h _ _ _ _ q), fun A st s H args us vs Q E r e b v q => F.run A st s H args us vs Q E r e b v (h _ _ _ _ q)⟩
/-- a def of the text by its body -/
theorem Fun.okG {x qual : Str} {st : Stmt} {N : List Str} (F : Fun K x qual st f fd) (S : FnScope N ps (defScope st)) (len : ∀ vs H Q E, sp vs H Q E → vs.length = ps.length)
    (hbody : ∀ (cdv : Value) (A : Around) (fs : List Env) (s : Shared) (H : Hp) (vs : List V) (Q : VK) (E : XK), Rm k (A.deeper (envOfC qual (defScope st) s.heap.objs.size f cdv)) → sp vs H Q E →
      ∃ t, PSs (cxOf CX P w K mg base N qual (defScope st) f cdv A fs s H E) (defBody st) t ∧ t { nx := fun _ H' => Q .non H', rt := Q } (L2.start N vs) H) : FnG P w K mg base CX (k + 1) f fd ps sp := by
  obtain ⟨oc, od, kV, doc, pm, an, cdv, ct, osl, rfl, look, code⟩ := F.ex
  refine ⟨len, fun A fs s H args us vs Q E r e0 hb rv hs => ?_⟩
  have inK : K.In s.heap := e0.mod.kin.keeps fun b o z => (e0.bs b o z).1
  have noL : s.heap.NoLimit := e0.mod.nolimit.keeps fun b o z => (e0.bs b o z).1
  refine codeAny_call_function r.rm.depth (inK _ _ look) rfl S.co S.gen rfl (PySem.W.codeRec_of inK code) (hb _ _ _ _ ?_)
  have kinds : ∀ y ∈ ps.zip us, (defScope st).names.lookup y.1 = some .local ∨
      ((defScope st).names.lookup y.1 = some .cell ∧ ((cellsFrom (s.heap.objs.size + 1) (defScope st).names []).lookup y.1).isSome = true) := by
    rintro ⟨n, v⟩ hy
    exact (S.par n (List.of_mem_zip hy).1).imp id fun z => ⟨z, PySem.W.cellsFrom_some _ _ _ (.inl z)⟩
  refine wpAny_newFunctionEnv_cells S.kind kinds fun env eqE s1 inC => ?_
  subst eqE
  refine ⟨noL.keeps inC.toInCall.keep, codeAny_func ?_⟩
  obtain ⟨t, ht, rd⟩ := hbody cdv A fs s H vs Q E ⟨r.rm.deeper _, r.gd⟩ hs
  have J := inv_start (CX := CX) (E := E) S r.rm.hd e0 (len _ _ _ _ hs) rv inC
  refine wpAny_mono (ht.run [] s1 _ H _ J rd) (fun fl s' z => ?_) fun _ _ z => z
  cases fl with
  | ret u =>
    obtain ⟨v, _, H', J', r', q⟩ := z
    exact ⟨v, H', J'.os, J'.bare, J'.base, J'.hok, r', q⟩
  | next =>
    obtain ⟨_, H', J', q⟩ := z
    exact ⟨V.non, H', J'.os, J'.bare, J'.base, J'.hok, rfl, q⟩
  | brk => exact z.elim fun _ z => z.elim fun _ z => z.2.elim
  | cont => exact z.elim fun _ z => z.elim fun _ z => z.2.elim
end
section
variable {X : Cx} {CX : CXT} {k : Nat} {f : Addr} {fd : FuncData} {ps : List Str} {sp : Sp} {E : XK} {x : Str} {p pos : Pos} {e : Expr} {es : List Expr} {t : TA} {dvs : List V} {ds : List Value}
theorem runG {pins : List (Addr × Obj)} {σ : L2.St} {H : Hp} {s : Shared} {Q : VK} {us : List Value} {vs : List V} (F : FnG X.prog X.w X.K X.mg X.base CX k f fd ps sp) (r : Rm k X.A) (hb : Binds X.K fd ps ds) (hd : Vals dvs ds) (hx : Passes CX X E)
    (I : Inv X pins σ H s) (rv : Vals vs us) (h : sp (vs ++ dvs) H Q E) : wpAny (model X.prog X.w) X.A (call (.ref f) us) (EP X pins σ Q) X.xe s := by
  have both := rv.append hd
  have n : (us ++ ds).length = ps.length := both.length.symm.trans (F.len _ _ _ _ h)
  have run := F.run X.A X.stack s H ⟨us, []⟩ (us ++ ds) (vs ++ dvs) Q E r I.env0 (hb s us I.kIn n) both h
  refine wpAny_call (codeAny_mono run fun res s' z => ?_)
  rcases res with err | fl
  · exact hx pins σ H s err s' I z
  · cases fl with
    | ret u => exact I.after z
    | next => exact z.elim
    | brk => exact z.elim
    | cont => exact z.elim
theorem pe_callG (F : FnG X.prog X.w X.K X.mg X.base CX k f fd ps sp) (r : Rm k X.A) (hg : Gl X x) (hm : X.mg x = some (.ref f)) (hk : PySem.W.keepIn X.K (.ref f) = true) (hb : Binds X.K fd ps ds) (hd : Vals dvs ds) (hx : Passes CX X E)
    (ha : PA X (e :: es) t) (hdb : (x == ("__debug__" : Str)) = false := by decide) (he : starEach (e :: es) X.env = (false, eval e X.env) :: starEach es X.env := by rfl) (hpl : (backTo pos (starEach es X.env)).any (·.1) = false := by rfl) :
    PE X (.Call (.Name x p) (e :: es) [] pos) (tCall sp dvs E t) := ⟨fun pins s σ H Q I h => by
  refine wpAny_Call_Name_kw (ld_glob I hg hm (PySem.W.callWith_K (h₀ := X.base) I.ok.mod.kin hk ?_ he hpl) hdb)
  exact thn (ha.run pos pins s σ H _ I h) fun us s1 ⟨vs, H1, I1, rv, q⟩ => ⟨I1.kIn, runG F r hb hd hx I1 rv q⟩⟩
theorem pe_call0G (F : FnG X.prog X.w X.K X.mg X.base CX k f fd ps sp) (r : Rm k X.A) (hg : Gl X x) (hm : X.mg x = some (.ref f)) (hk : PySem.W.keepIn X.K (.ref f) = true) (hb : Binds X.K fd ps ds) (hd : Vals dvs ds) (hx : Passes CX X E)
    (hdb : (x == ("__debug__" : Str)) = false := by decide) : PE X (.Call (.Name x p) [] [] pos) (tCall sp dvs E tNil) := ⟨fun pins s σ H Q I h =>
  wpAny_Call_Name_kw (ld_glob I hg hm (PySem.W.callWith_K0 I.kIn hk (runG (us := []) F r hb hd hx I .nil h)) hdb)⟩
end
/-- a def of the text that is called by its name: its promise on data; c: what it may draw at most -/
structure Cal (P : Program) (w : World) (K : PySem.W.Frag) (mg : Str → Option Value) (base : Heap) (x : Str) (k : Nat) (ps : List Str) (c : Nat) (sp : List EV → (D → Prop) → Prop) : Prop where
  ex : ∃ f fd, FnG P w K mg base CX0 k f fd ps (spD K c sp) ∧ mg x = some (.ref f) ∧ PySem.W.keepIn K (.ref f) = true ∧ Binds K fd ps []
section
variable {X : Cx} {k c : Nat} {ps : List Str} {sp : List EV → (D → Prop) → Prop} {x : Str} {p pos : Pos} {e : Expr} {es : List Expr} {m1 : MA} {n1 : Nat}
theorem ge_cal (C : Cal X.prog X.w X.K X.mg X.base x k ps c sp) (r : Rm k X.A) (hg : Gl X x)
    (ha : GA X (e :: es) n1 m1) (hdb : (x == ("__debug__" : Str)) = false := by decide) (he : starEach (e :: es) X.env = (false, eval e X.env) :: starEach es X.env := by rfl) (hpl : (backTo pos (starEach es X.env)).any (·.1) = false := by rfl) :
    GE X (.Call (.Name x p) (e :: es) [] pos) (n1 + c) (mCall sp m1) := by
  obtain ⟨f, fd, F, hm, hk, hb⟩ := C.ex
  exact pe_imp (pe_callG F r hg hm hk hb .nil pass0 ha hdb he hpl) fun σ H Q h => call_ok h
theorem ge_cal0 (C : Cal X.prog X.w X.K X.mg X.base x k ps c sp) (r : Rm k X.A) (hg : Gl X x) (hdb : (x == ("__debug__" : Str)) = false := by decide) : GE X (.Call (.Name x p) [] [] pos) c (mCall sp mNil) := by
  obtain ⟨f, fd, F, hm, hk, hb⟩ := C.ex
  refine pe_imp (pe_call0G F r hg hm hk hb .nil pass0 hdb) fun σ H Q h => ?_
  obtain ⟨W, B, G0, H0, G, env, P, R, hm, q⟩ := h
  exact ⟨W.dk, B, G, [], _, R.toRW.self0, .nil, hm, fun x v G2 H2 p2 r2 d2 => q x env v G2 H2 p2 r2.g0 (R.after r2) d2⟩
end
section
variable {P : Program} {w : World} {K : PySem.W.Frag} {mg : Str → Option Value} {base : Heap}
theorem okDG {x qual : Str} {st : Stmt} {f : Addr} {fd : FuncData} {N ps : List Str} {k n c : Nat} {sp : List EV → (D → Prop) → Prop} {ms : MS} (F : Fun K x qual st f fd) (S : FnScope N ps (defScope st)) (len : ∀ as Q, sp as Q → as.length = ps.length)
    (hbody : ∀ (cdv : Value) (A : Around) (fs : List Env) (s : Shared) (H : Hp) (E : XK), Rm k (A.deeper (envOfC qual (defScope st) s.heap.objs.size f cdv)) →
      GSs (cxOf CX0 P w K mg base N qual (defScope st) f cdv A fs s H E).nox (defBody st) n ms) (hn : n ≤ c)
    (hd : ∀ as Q, sp as Q → ms { nx := fun _ => Q .none, rt := fun x _ => Q x } (env0 N as)) : FnG P w K mg base CX0 (k + 1) f fd ps (spD K c sp) := by
  refine Fun.okG F S (fun vs H Q E h => ?_) (fun cdv A fs s H vs Q E hr h => ?_)
  · obtain ⟨W, B, G, as, Pd, r, a, h, _⟩ := h
    rw [args_len a]
    exact len as Pd h
  · obtain ⟨W, B, G, as, Pd, r, a, h, q⟩ := h
    refine ⟨_, (hbody cdv A fs s H E hr).nox, .of W, B, G, H, G, env0 N as, _, rel_start N (r.le (by omega)) a, hd as Pd h, ?_⟩
    exact ⟨fun e σ g H' p z R => q _ _ g H' p R.toRW .non, fun x e σ v g H' p z R d => q x v g H' p R.toRW d, fun _ _ _ _ p => p.elim, fun _ _ _ _ p => p.elim⟩
end
/-! ### the end of a law -/
/-- the script's heap: nothing, or the script locked -/
def scr (a : Addr) (o : Obj) (ns : List Int) : Hp := fun b => if b = a then some (.frz o (.lst (ns.map V.int))) else none
theorem scr_at {a b : Addr} {o : Obj} {ns : List Int} : (b = a ∧ scr a o ns b = some (.frz o (.lst (ns.map V.int)))) ∨ (b ≠ a ∧ scr a o ns b = none) := by
  by_cases z : b = a
  · exact .inl ⟨z, if_pos z⟩
  · exact .inr ⟨z, if_neg z⟩
section
variable {P : Program} {w : World} {K : PySem.W.Frag} {mg mb : Str → Option Value} {k : Nat} {fa a : Addr} {fd : FuncData} {x : Str} {sp : Sp} {s1 : Shared} {vs : List Value} {ns : List Int}
theorem law_core {H : Hp} (hH : ∀ b, H b = none ∨ (b = a ∧ H b = some (.frz { cls := .type "list", data := .seq vs.toArray } (.lst (ns.map V.int))) ∧ K.lookup a = none))
    (inK : K.In s1.heap) (gl : s1.heap.Ns mainGlobals mg) (bl : s1.heap.Ns builtinsNs mb) (bb : ∀ x : Str, x ≠ "__name__" → mb x = bootBuiltins x) (noL : s1.heap.NoLimit) (gen : s1.gens = #[])
    (ob : s1.heap.get? a = some { cls := .type "list", data := .seq vs.toArray }) (hok : HOk P w H s1.heap) (rm : Rm k callerA)
    (F : ∀ base : Heap, K.In base → base.Ns mainGlobals mg → FnG P w K mg base CX0 k fa fd [x] sp) (bind : ∀ (s : Shared) (u : Value), BindsTo s fd ⟨[u], []⟩ [(x, u)])
    (hs : sp [.ref a] H (fun v _ => v = .bl true) fun _ _ _ => False) :
    codeAny (model P w) callerA (.call (.ref fa) ⟨[.ref a], []⟩) (fun r s' => r = .ok (.ret (.bool true)) ∧ OldK s1.heap s'.heap ∧ s'.os = s1.os ∧ AllBare s'.gens) s1 := by
  -- what isn't tracked stands in the base
  have low : ∀ {b : Addr} {o : Obj}, s1.heap.get? b = some o → H b = none → (hidT s1.heap H).get? b = some o := fun z n => hidT_get z n
  have ns1 : ∀ {b : Addr} {m : Str → Option Value}, s1.heap.Ns b m → (hidT s1.heap H).Ns b m := by
    rintro b m ⟨o, es, ep, z, d, r⟩
    refine ⟨o, es, ep, low z ?_, d, r⟩
    rcases hH b with n | ⟨rfl, _⟩
    · exact n
    · rw [ob] at z
      cases z
      cases d
  have kin : K.In (hidT s1.heap H) := fun b o z => low (inK b o z) <| by
    rcases hH b with n | ⟨rfl, _, n⟩
    · exact n
    · rw [n] at z
      cases z
  have md : Mod K mg (hidT s1.heap H) := by
    obtain ⟨mc, h1, h2⟩ := noL
    exact ⟨kin, ns1 gl, ⟨mb, ns1 bl, bb⟩, mc, ns1 h1, h2⟩
  have e0 : Env0 P w K mg (hidT s1.heap H) callerA [] s1 H :=
    { frames := rfl, mod := md, bs := fun _ _ z => of_hidT z, bsz := Nat.le_of_eq (hidT_size _ _), funs := trivial, frf := fun b z => (nomatch z), hok := hok, bare := .of_eq gen }
  have run := (F _ kin (ns1 gl)).run callerA [] s1 H ⟨[.ref a], []⟩ [.ref a] [.ref a] _ _ rm e0 (bind s1 (.ref a)) (.cons rfl .nil) hs
  refine codeAny_mono run fun res s' z => ?_
  rcases res with err | fl
  · exact z.elim
  cases fl with
  | next => exact z.elim
  | brk => exact z.elim
  | cont => exact z.elim
  | ret u =>
    obtain ⟨v, H', os, bare, un, hok', rel, q⟩ := z
    cases (show v = .bl true from q)
    cases (show u = Value.bool true from rel)
    refine ⟨rfl, OldK.of_keep fun b o z => ?_, os, bare⟩
    rcases hH b with n | ⟨rfl, t, _⟩
    · exact un.keep b o z n (fun q => (nomatch q)) (fun q => (nomatch q))
    · have t2 := un.frzs b _ _ t
      obtain ⟨e1, _⟩ := hok b _ t
      obtain ⟨e2, _⟩ := hok' b _ t2
      rw [z] at e1
      cases e1
      exact e2
theorem law_end (inK : K.In s1.heap) (gl : s1.heap.Ns mainGlobals mg) (bl : s1.heap.Ns builtinsNs mb) (bb : ∀ x : Str, x ≠ "__name__" → mb x = bootBuiltins x) (noL : s1.heap.NoLimit) (gen : s1.gens = #[])
    (ob : s1.heap.get? a = some { cls := .type "list", data := .seq vs.toArray }) (iv : IntsAre vs ns) (hl : ns.length ≤ sizeLine) (rm : Rm k callerA)
    (F : ∀ base : Heap, K.In base → base.Ns mainGlobals mg → FnG P w K mg base CX0 k fa fd [x] sp) (bind : ∀ (s : Shared) (u : Value), BindsTo s fd ⟨[u], []⟩ [(x, u)])
    (hs : ∀ H : Hp, Only H → SqL K H a (ns.map V.int) → sp [.ref a] H (fun v _ => v = .bl true) fun _ _ _ => False) :
    codeAny (model P w) callerA (.call (.ref fa) ⟨[.ref a], []⟩) (fun r s' => r = .ok (.ret (.bool true)) ∧ OldK s1.heap s'.heap ∧ s'.os = s1.os ∧ AllBare s'.gens) s1 := by
  cases lk : K.lookup a with
  | none =>
    refine law_core (ns := ns) (H := scr a { cls := .type "list", data := .seq vs.toArray } ns) (fun b => ?_) inK gl bl bb noL gen ob (fun b u z => ?_) rm F bind (hs _ (fun b => ?_) ?_)
    · rcases scr_at (a := a) (b := b) (o := { cls := .type "list", data := .seq vs.toArray }) (ns := ns) with ⟨h1, h2⟩ | ⟨_, h2⟩
      · exact .inr ⟨h1, h2, lk⟩
      · exact .inl h2
    · rcases scr_at (a := a) (b := b) (o := { cls := .type "list", data := .seq vs.toArray }) (ns := ns) with ⟨h1, h2⟩ | ⟨_, h2⟩
      · subst h1
        cases h2.symm.trans z
        exact ⟨ob, by rw [List.length_map]; exact hl, vs, _, vals_ints iv, ob⟩
      · cases h2.symm.trans z
    · rcases scr_at (a := a) (b := b) (o := { cls := .type "list", data := .seq vs.toArray }) (ns := ns) with ⟨_, h2⟩ | ⟨_, h2⟩
      · exact .inr ⟨_, _, h2⟩
      · exact .inl h2
    · exact .inl (.inr ⟨_, if_pos rfl⟩)
  | some o =>
    have z := inK a o lk
    rw [ob] at z
    cases z
    refine law_core (ns := ns) (H := fun _ => none) (fun _ => .inl rfl) inK gl bl bb noL gen ob (fun _ _ z => (nomatch z)) rm F bind (hs _ (fun _ => .inl rfl) (.inr ?_))
    exact ⟨_, vs.toArray, _, lk, rfl, rfl, rfl, by rw [List.size_toArray, iv.length]; exact hl, by simpa using vals_ints iv⟩
end
/-- the goal that k_head leaves -/
theorem walkG {l : PySem.W.OpenLaw} {n k : Nat} {q : Program} {loose : List Str} {XP : (Str → Option Value) → Heap → Prop} {YP : World → Heap → Prop} {d : DefRec} {K : Params → PySem.W.Frag} {sp : PySem.W.Frag → Sp} {x : Str}
    (hn : l.most = some n) (hn2 : n ≤ sizeLine) (hdf : d.params.defaults = []) (rm : Rm k callerA) (hY : ∀ (w : World) (h : Heap), YP w h → (K w.params).In h)
    (F : ∀ (w : World) (mg : Str → Option Value) (fa : Addr) (h : Heap), (K w.params).In h → h.Ns mainGlobals mg → mg d.name = some (.ref fa) →
      ∃ fd : FuncData, (∀ (s : Shared) (u : Value), BindsTo s fd ⟨[u], []⟩ [(x, u)]) ∧ ∀ base : Heap, (K w.params).In base → base.Ns mainGlobals mg → FnG l.prog w (K w.params) mg base CX0 k fa fd [x] (sp (K w.params)))
    (hs : ∀ (K : PySem.W.Frag) (H : Hp) (a : Addr) (ns : List Int), ns.length ≤ n → (∀ z ∈ ns, Builtin.Int.intBits z ≤ 1048576) → Only H → SqL K H a (ns.map V.int) → sp K [.ref a] H (fun v _ => v = .bl true) fun _ _ _ => False) :
    PySem.W.WalkO q loose XP YP l.row.toRowW d [] (fun f vs => PySem.call f vs) :=
  Att.attach_callB hn hdf fun w s₀ s₁ mg mb fa o pm cd doc a vs ns G Y ho hd hcd hmg hobj hints hlen hbits hg => by
    obtain ⟨fd, hb, hF⟩ := F w mg fa _ (hY w _ Y) G.T.g hmg
    exact law_end (hY w _ Y) G.T.g G.T.b G.T.builtins G.T.nolimit hg hobj hints (Nat.le_trans hlen hn2) rm hF hb fun H hO hS => hs _ H a ns hlen hbits hO hS
end DL
namespace DL
open PySem PySem.Spec PyProof.Rows L2
/-! ### built-ins on data -/
def dLen : List D → (D → Prop) → Prop
  | [.str z], P => z.length ≤ sizeLine ∧ P (.int z.length)
  | [.list xs], P => P (.int xs.length)
  | [.tuple xs], P => P (.int xs.length)
  | _, _ => False
def dInt : List D → (D → Prop) → Prop
  | [.int i], P => P (.int i)
  | [.bool b], P => P (.int (if b then 1 else 0))
  | [.str z], P => ∃ n, intText? z = some n ∧ z.length ≤ 640 ∧ P (.int n)
  | _, _ => False
def dStr : List D → (D → Prop) → Prop
  | [.int i], P => i.natAbs.log2 < 1920 ∧ P (.str (toString i))
  | _, _ => False
def blsD : List D → Option (List Bool)
  | [] => some []
  | .bool b :: r => (blsD r).map (b :: ·)
  | _ :: _ => none
def dAll : List D → (D → Prop) → Prop
  | [.list xs], P => match blsD xs with
    | some bs => P (.bool (bs.all id))
    | none => False
  | _, _ => False
def dAny : List D → (D → Prop) → Prop
  | [.list xs], P => match blsD xs with
    | some bs => P (.bool (bs.any id))
    | none => False
  | _, _ => False
def dListOf : List D → (D → Prop) → Prop
  | [.list xs], P => P (.list xs)
  | [.tuple xs], P => P (.list xs)
  | _, _ => False
def dTupOf : List D → (D → Prop) → Prop
  | [.list xs], P => P (.tuple xs)
  | [.tuple xs], P => P (.tuple xs)
  | _, _ => False
def dRepr : List D → (D → Prop) → Prop
  | [.list xs], P => ((PyData.showable (.list xs) = true ∧ noDict (.list xs) = true) ∧ PyData.depth (.list xs) ≤ 60 ∧ (PyData.shown (.list xs)).length ≤ sizeLine) ∧ P (.str (PyData.shown (.list xs)))
  | [.tuple xs], P => ((PyData.showable (.tuple xs) = true ∧ noDict (.tuple xs) = true) ∧ PyData.depth (.tuple xs) ≤ 60 ∧ (PyData.shown (.tuple xs)).length ≤ sizeLine) ∧ P (.str (PyData.shown (.tuple xs)))
  | [.int i], P => i.natAbs.log2 < 1920 ∧ P (.str (toString i))
  | _, _ => False
theorem bls_v {K : PySem.W.Frag} {G : Hp} : ∀ {vs : List V} {xs : List D} {bs : List Bool}, DrAll K G vs xs → blsD xs = some bs → vs = bs.map V.bl
  | _, _, _, .nil, h => by
    cases h
    rfl
  | _, _, _, .cons (d := .bool b) a t, h => by
    simp only [blsD, Option.map_eq_some_iff] at h
    obtain ⟨r, h1, rfl⟩ := h
    cases dp_bl a
    rw [bls_v t h1]
    rfl
  | _, _, _, .cons (d := .none) _ _, h => by cases h
  | _, _, _, .cons (d := .int _) _ _, h => by cases h
  | _, _, _, .cons (d := .str _) _ _, h => by cases h
  | _, _, _, .cons (d := .list _) _ _, h => by cases h
  | _, _, _, .cons (d := .tuple _) _ _, h => by cases h
  | _, _, _, .cons (d := .dict _) _ _, h => by cases h
theorem all1 {K : PySem.W.Frag} {G : Hp} {vs : List V} {x : D} (h : DrAll K G vs [x]) : ∃ v, vs = [v] ∧ Dr K G v x := by
  cases h with
  | cons a t =>
    cases t
    exact ⟨_, rfl, a⟩
theorem all2 {K : PySem.W.Frag} {G : Hp} {vs : List V} {x y : D} (h : DrAll K G vs [x, y]) : ∃ v u, vs = [v, u] ∧ Dr K G v x ∧ Dr K G u y := by
  cases h with
  | cons a t =>
    obtain ⟨u, rfl, b⟩ := all1 t
    exact ⟨_, _, rfl, a, b⟩
section
variable {X : Cx}
theorem cd_len : CallR X (.builtin "len") (rDC X.K dLen) := by
  intro pins s σ H xs us Q I r h
  obtain ⟨G, ds, P, sG, da, hf, q⟩ := h
  unfold dLen at hf
  split at hf
  · obtain ⟨v, rfl, d⟩ := all1 da
    cases dp_str d
    exact call_len pins s σ H _ us Q I r ⟨_, _, rfl, ⟨hf.1, rfl⟩, q _ _ G H hf.2 (Grow.refl sG) (.int _)⟩
  · obtain ⟨v, rfl, d⟩ := all1 da
    obtain ⟨a, ws, rfl, h1, h2⟩ := dp_lst d
    exact call_len pins s σ H _ us Q I r ⟨_, _, rfl, .inl ⟨ws, SqL.of (sG _ _ h1), rfl⟩, q _ _ G H (by rw [dpAll_len h2]; exact hf) (Grow.refl sG) (.int _)⟩
  · obtain ⟨v, rfl, d⟩ := all1 da
    obtain ⟨a, ws, rfl, h1, h2⟩ := dp_tup d
    exact call_len pins s σ H _ us Q I r ⟨_, _, rfl, .inr ⟨ws, same_sqT sG h1, rfl⟩, q _ _ G H (by rw [dpAll_len h2]; exact hf) (Grow.refl sG) (.int _)⟩
  · exact hf.elim
theorem cd_int : CallR X (.type "int") (rDC X.K dInt) := by
  intro pins s σ H xs us Q I r h
  obtain ⟨G, ds, P, sG, da, hf, q⟩ := h
  unfold dInt at hf
  split at hf
  · obtain ⟨v, rfl, d⟩ := all1 da
    cases dp_int d
    exact call_int1 pins s σ H _ us Q I r (.inl ⟨_, rfl, q _ _ G H hf (Grow.refl sG) (.int _)⟩)
  · obtain ⟨v, rfl, d⟩ := all1 da
    cases dp_bl d
    exact call_int1 pins s σ H _ us Q I r (.inr ⟨_, rfl, q _ _ G H hf (Grow.refl sG) (.int _)⟩)
  · obtain ⟨v, rfl, d⟩ := all1 da
    cases dp_str d
    obtain ⟨n, h1, h2, h3⟩ := hf
    exact call_int_str pins s σ H _ us Q I r ⟨_, n, rfl, h1, h2, q _ _ G H h3 (Grow.refl sG) (.int _)⟩
  · exact hf.elim
theorem cd_str : CallR X (.type "str") (rDC X.K dStr) := by
  intro pins s σ H xs us Q I r h
  obtain ⟨G, ds, P, sG, da, hf, q⟩ := h
  unfold dStr at hf
  split at hf
  · obtain ⟨v, rfl, d⟩ := all1 da
    cases dp_int d
    exact call_str_int pins s σ H _ us Q I r ⟨_, rfl, hf.1, q _ _ G H hf.2 (Grow.refl sG) (.str _)⟩
  · exact hf.elim
theorem cd_all (hc : X.calm = true) : CallR X (.builtin "all") (rDC X.K dAll) := by
  intro pins s σ H xs us Q I r h
  obtain ⟨G, ds, P, sG, da, hf, q⟩ := h
  unfold dAll at hf
  split at hf
  · obtain ⟨v, rfl, d⟩ := all1 da
    obtain ⟨a, ws, rfl, h1, h2⟩ := dp_lst d
    split at hf
    · rename_i bs e
      rw [bls_v h2 e] at h1
      exact cr_all hc pins s σ H _ us Q I r ⟨a, bs, rfl, SqL.of (sG _ _ h1), q _ _ G H hf (Grow.refl sG) (.bl _)⟩
    · exact hf.elim
  · exact hf.elim
theorem cd_any (hc : X.calm = true) : CallR X (.builtin "any") (rDC X.K dAny) := by
  intro pins s σ H xs us Q I r h
  obtain ⟨G, ds, P, sG, da, hf, q⟩ := h
  unfold dAny at hf
  split at hf
  · obtain ⟨v, rfl, d⟩ := all1 da
    obtain ⟨a, ws, rfl, h1, h2⟩ := dp_lst d
    split at hf
    · rename_i bs e
      rw [bls_v h2 e] at h1
      exact cr_any hc pins s σ H _ us Q I r ⟨a, bs, rfl, SqL.of (sG _ _ h1), q _ _ G H hf (Grow.refl sG) (.bl _)⟩
    · exact hf.elim
  · exact hf.elim
theorem cd_list : CallR X (.type "list") (rDC X.K dListOf) := by
  intro pins s σ H xs us Q I r h
  obtain ⟨G, ds, P, sG, da, hf, q⟩ := h
  unfold dListOf at hf
  split at hf
  · obtain ⟨v, rfl, d⟩ := all1 da
    obtain ⟨a, ws, rfl, h1, h2⟩ := dp_lst d
    exact call_list_of pins s σ H _ us Q I r ⟨a, ws, rfl, .inl (SqL.of (sG _ _ h1)), fun p hp => q _ _ _ _ hf (Grow.new1 sG hp) (.lst upd_same (dpAll_same (same_upd (sG.free hp)) h2))⟩
  · obtain ⟨v, rfl, d⟩ := all1 da
    obtain ⟨a, ws, rfl, h1, h2⟩ := dp_tup d
    exact call_list_of pins s σ H _ us Q I r ⟨a, ws, rfl, .inr (same_sqT sG h1), fun p hp => q _ _ _ _ hf (Grow.new1 sG hp) (.lst upd_same (dpAll_same (same_upd (sG.free hp)) h2))⟩
  · exact hf.elim
theorem cd_tuple : CallR X (.type "tuple") (rDC X.K dTupOf) := by
  intro pins s σ H xs us Q I r h
  obtain ⟨G, ds, P, sG, da, hf, q⟩ := h
  unfold dTupOf at hf
  split at hf
  · obtain ⟨v, rfl, d⟩ := all1 da
    obtain ⟨a, ws, rfl, h1, h2⟩ := dp_lst d
    exact call_tuple_of pins s σ H _ us Q I r ⟨a, ws, rfl, .inl ⟨SqL.of (sG _ _ h1), fun p hp => q _ _ _ _ hf (Grow.new1 sG hp) (.tup (SqT.of upd_same) (dpAll_same (same_upd (sG.free hp)) h2))⟩⟩
  · obtain ⟨v, rfl, d⟩ := all1 da
    obtain ⟨a, ws, rfl, h1, h2⟩ := dp_tup d
    exact call_tuple_of pins s σ H _ us Q I r ⟨a, ws, rfl, .inr ⟨same_sqT sG h1, q _ _ G H hf (Grow.refl sG) d⟩⟩
  · exact hf.elim
theorem repr_ref (hg : X.A.guards = some []) (hu : X.A.units + 64 < cLine) {pins : List (Addr × Obj)} {s : Shared} {σ : L2.St} {H : Hp} {a : Addr} {us : List Value} {Q : VK} {x : D} (I : Inv X pins σ H s) (r : Vals [.ref a] us) (d : Dp X.K H (.ref a) x)
    (hs : x.showable = true) (hn : noDict x = true) (hd : x.depth ≤ 60) (hz : x.shown.length ≤ sizeLine) (q : Q (.str x.shown) H) : wpAny (model X.prog X.w) X.A (call (.builtin "repr") us) (EP X pins σ Q) X.xe s := by
  obtain ⟨u, rfl, r1⟩ := vals1 r
  cases r1
  obtain ⟨as, rd⟩ := Dp.reads I x _ _ d rfl
  have nd : ∀ y : D, noDict y = true → y.hasDict = false := noDict_has
  refine repr_of_reads' rd hs (fun z => by rw [nd x hn] at z; cases z) hg (by omega) (fun b o e => e) (fun h' t tk hk => ?_) hz
  exact ⟨.str _, H, I.kept hk, ⟨_, rfl⟩, q⟩
where
  noDict_has : ∀ y : D, noDict y = true → y.hasDict = false
    | .none, _ => rfl
    | .bool _, _ => rfl
    | .int _, _ => rfl
    | .str _, _ => rfl
    | .list xs, h => by
      rw [PyData.hasDict]
      exact noDicts_has xs (by simpa [noDict] using h)
    | .tuple xs, h => by
      rw [PyData.hasDict]
      exact noDicts_has xs (by simpa [noDict] using h)
    | .dict _, h => by simp [noDict] at h
  noDicts_has : ∀ ys : List D, noDicts ys = true → PyData.hasDictAll ys = false
    | [], _ => rfl
    | y :: r, h => by
      simp only [noDicts, Bool.and_eq_true] at h
      rw [PyData.hasDictAll, noDict_has y h.1, noDicts_has r h.2]
      rfl
theorem cd_repr (hg : X.A.guards = some []) (hu : X.A.units + 64 < cLine) : CallR X (.builtin "repr") (rDC X.K dRepr) := by
  intro pins s σ H xs us Q I r h
  obtain ⟨G, ds, P, sG, da, hf, q⟩ := h
  unfold dRepr at hf
  split at hf
  · obtain ⟨v, rfl, d⟩ := all1 da
    obtain ⟨⟨⟨h1, h2⟩, h3, h4⟩, hP⟩ := hf
    have d2 := dr_dp (dp_same sG d) h2
    obtain ⟨a, ws, rfl, _, _⟩ := dp_lst d
    exact repr_ref hg hu I r d2 h1 h2 h3 h4 (q _ _ G H hP (Grow.refl sG) (.str _))
  · obtain ⟨v, rfl, d⟩ := all1 da
    obtain ⟨⟨⟨h1, h2⟩, h3, h4⟩, hP⟩ := hf
    have d2 := dr_dp (dp_same sG d) h2
    obtain ⟨a, ws, rfl, _, _⟩ := dp_tup d
    exact repr_ref hg hu I r d2 h1 h2 h3 h4 (q _ _ G H hP (Grow.refl sG) (.str _))
  · obtain ⟨v, rfl, d⟩ := all1 da
    cases dp_int d
    exact SkE.call_repr_int pins s σ H _ us Q I r ⟨_, rfl, hf.1, q _ _ G H hf.2 (Grow.refl sG) (.str _)⟩
  · exact hf.elim
/-! ### isinstance -/
def tyName : D → String
  | .none => "NoneType"
  | .bool _ => "bool"
  | .int _ => "int"
  | .str _ => "str"
  | .list _ => "list"
  | .tuple _ => "tuple"
  | .dict _ => "dict"
def isiN (T n : String) : Bool := n == T || (T == "int" && n == "bool")
def isiD (T : String) (x : D) : Bool := isiN T (tyName x)
def tyNames : List String := ["NoneType", "bool", "int", "str", "list", "tuple", "dict"]
theorem tyName_mem (x : D) : tyName x ∈ tyNames := by
  cases x <;> simp [tyName, tyNames]
theorem ty_x {K : PySem.W.Frag} {G H : Hp} {v : V} {x : D} (s : Same G H) (d : Dr K G v x) : TyX K H v (.type (tyName x)) := by
  cases d with
  | non => exact .base .non
  | bl b => exact .base (.bl b)
  | int i => exact .base (.int i)
  | str z => exact .base (.str z)
  | lst h _ => exact .base (.lst (s _ _ h))
  | tup h _ =>
    rcases h with (h | ⟨o, h⟩) | ⟨o, its, n, h1, h2, _⟩
    · exact .base (.tup (s _ _ h))
    · exact .fTuple (s _ _ h)
    · exact .kTuple h1 h2
  | dic h _ => exact .base (.dK (s _ _ h))
def mIsi (T : String) (m : ME) : ME := fun env P => m env fun x e1 => P (.bool (isiD T x)) e1
theorem ge_isi {T : String} {Tn : Str} {e : Expr} {me : ME} {ne : Nat} {p p2 pos : Pos} (hk : ∀ x : D, kitB (tyName x) T = some (isiD T x)) (hg : Gl X "isinstance") (hm : X.mg "isinstance" = none) (hgT : Gl X Tn) (hmT : X.mg Tn = none) (hvT : bootBuiltins Tn = some (.type T)) (he : GE X e ne me)
    (hs : starEach [e, .Name Tn p2] X.env = (false, eval e X.env) :: starEach [.Name Tn p2] X.env := by rfl) (hpl : (backTo pos (starEach [.Name Tn p2] X.env)).any (·.1) = false := by rfl) (hn : Tn ≠ "__name__" := by decide) (hd : (Tn == ("__debug__" : Str)) = false := by decide)
    (hs2 : starEach [.Name Tn p2] X.env = (false, eval (.Name Tn p2) X.env) :: starEach [] X.env := by rfl) :
    GE X (.Call (.Name "isinstance" p) [e, .Name Tn p2] [] pos) ne (mIsi T me) :=
  pe_imp (pe_callB call_isi hg hm boot_isinstance (pa_cons he (pa_cons (pe_bltn (v := .ty T) hgT hmT hvT rfl hn hd) pa_nil hs2) hs) (by decide) (by decide) hs hpl) fun σ H Q h => by
  obtain ⟨W, B, G0, H0, G, env, P, R, hm, q⟩ := h
  refine ⟨W, B, G0, H0, G, env, _, R, hm, fun x e1 v G1 H1 p1 s1 R1 d1 => ?_⟩
  exact ⟨v, .ty T, _, _, _, rfl, .ty T, ty_x R1.pub d1, kit_ty (hk x), q _ e1 _ G1 H1 p1 s1 R1 (.bl _)⟩
theorem kit_str : ∀ x : D, kitB (tyName x) "str" = some (isiD "str" x) := fun x => (show ∀ n ∈ tyNames, kitB n "str" = some (isiN "str" n) by decide +kernel) _ (tyName_mem x)
theorem kit_int : ∀ x : D, kitB (tyName x) "int" = some (isiD "int" x) := fun x => (show ∀ n ∈ tyNames, kitB n "int" = some (isiN "int" n) by decide +kernel) _ (tyName_mem x)
theorem kit_tuple : ∀ x : D, kitB (tyName x) "tuple" = some (isiD "tuple" x) := fun x => (show ∀ n ∈ tyNames, kitB n "tuple" = some (isiN "tuple" n) by decide +kernel) _ (tyName_mem x)
theorem kit_list : ∀ x : D, kitB (tyName x) "list" = some (isiD "list" x) := fun x => (show ∀ n ∈ tyNames, kitB n "list" = some (isiN "list" n) by decide +kernel) _ (tyName_mem x)
theorem kit_bool : ∀ x : D, kitB (tyName x) "bool" = some (isiD "bool" x) := fun x => (show ∀ n ∈ tyNames, kitB n "bool" = some (isiN "bool" n) by decide +kernel) _ (tyName_mem x)
theorem kit_dict : ∀ x : D, kitB (tyName x) "dict" = some (isiD "dict" x) := fun x => (show ∀ n ∈ tyNames, kitB n "dict" = some (isiN "dict" n) by decide +kernel) _ (tyName_mem x)
end
end DL
namespace DL
open PySem PySem.Spec PyProof.Rows L2
/-! ### methods of texts -/
def strsD : List D → Option (List Str)
  | [] => some []
  | .str z :: r => (strsD r).map (z :: ·)
  | _ :: _ => none
theorem strs_v {K : PySem.W.Frag} {G : Hp} : ∀ {vs : List V} {xs : List D} {bs : List Str}, DrAll K G vs xs → strsD xs = some bs → vs = bs.map V.str
  | _, _, _, .nil, h => by
    cases h
    rfl
  | _, _, _, .cons (d := .str b) a t, h => by
    simp only [strsD, Option.map_eq_some_iff] at h
    obtain ⟨r, h1, rfl⟩ := h
    cases dp_str a
    rw [strs_v t h1]
    rfl
  | _, _, _, .cons (d := .none) _ _, h => by cases h
  | _, _, _, .cons (d := .int _) _ _, h => by cases h
  | _, _, _, .cons (d := .bool _) _ _, h => by cases h
  | _, _, _, .cons (d := .list _) _ _, h => by cases h
  | _, _, _, .cons (d := .tuple _) _ _, h => by cases h
  | _, _, _, .cons (d := .dict _) _ _, h => by cases h
def fJoin : D → List D → (D → Prop) → Prop
  | .str a, [.list xs], P => match strsD xs with
    | some ys => (ys.map (·.length)).sum + ys.length * a.length ≤ 16777216 ∧ P (.str (Txt.join a ys))
    | none => False
  | _, _, _ => False
def fSplit : D → List D → (D → Prop) → Prop
  | .str a, [.str b], P => ((b.length == 0) = false ∧ a.length + 2 ≤ sizeLine) ∧ P (.list ((Txt.split a b).map PyData.str))
  | _, _, _ => False
def fUpper : D → List D → (D → Prop) → Prop
  | .str a, [], P => a.length ≤ 5592405 ∧ P (.str (Txt.upper a))
  | _, _, _ => False
def fStarts : D → List D → (D → Prop) → Prop
  | .str a, [.str b], P => P (.bool (Txt.startswith a b))
  | _, _, _ => False
theorem dr_strs {K : PySem.W.Frag} {G : Hp} : ∀ ys : List Str, DrAll K G (ys.map V.str) (ys.map PyData.str)
  | [] => .nil
  | y :: r => .cons (.str y) (dr_strs r)
section
variable {X : Cx}
theorem md_join : MtR X "str.join" (rDM X.K fJoin) := by
  intro pins s σ H x xs v us Q I rx rs h
  obtain ⟨G, dx, ds, P, sG, d1, da, hf, q⟩ := h
  unfold fJoin at hf
  split at hf
  · cases dp_str d1
    obtain ⟨w, rfl, d⟩ := all1 da
    obtain ⟨a, ws, rfl, h1, h2⟩ := dp_lst d
    split at hf
    · rename_i ys e
      rw [strs_v h2 e] at h1
      exact mt_join pins s σ H _ _ v us Q I rx rs ⟨_, a, ys, rfl, rfl, .inl (SqL.of (sG _ _ h1)), hf.1, q _ _ G H hf.2 (Grow.refl sG) (.str _)⟩
    · exact hf.elim
  · exact hf.elim
theorem md_split : MtR X "str.split" (rDM X.K fSplit) := by
  intro pins s σ H x xs v us Q I rx rs h
  obtain ⟨G, dx, ds, P, sG, d1, da, hf, q⟩ := h
  unfold fSplit at hf
  split at hf
  · cases dp_str d1
    obtain ⟨w, rfl, d⟩ := all1 da
    cases dp_str d
    exact mt_split pins s σ H _ _ v us Q I rx rs ⟨_, _, rfl, rfl, hf.1.1, hf.1.2, fun p hp => q _ _ _ _ hf.2 (Grow.new1 sG hp) (.lst upd_same (dr_strs _))⟩
  · exact hf.elim
theorem md_upper : MtR X "str.upper" (rDM X.K fUpper) := by
  intro pins s σ H x xs v us Q I rx rs h
  obtain ⟨G, dx, ds, P, sG, d1, da, hf, q⟩ := h
  unfold fUpper at hf
  split at hf
  · cases dp_str d1
    cases da
    exact mt_upper pins s σ H _ _ v us Q I rx rs ⟨_, rfl, rfl, hf.1, q _ _ G H hf.2 (Grow.refl sG) (.str _)⟩
  · exact hf.elim
theorem md_starts : MtR X "str.startswith" (rDM X.K fStarts) := by
  intro pins s σ H x xs v us Q I rx rs h
  obtain ⟨G, dx, ds, P, sG, d1, da, hf, q⟩ := h
  unfold fStarts at hf
  split at hf
  · cases dp_str d1
    obtain ⟨w, rfl, d⟩ := all1 da
    cases dp_str d
    exact mt_startswith pins s σ H _ _ v us Q I rx rs ⟨_, _, rfl, rfl, q _ _ G H hf (Grow.refl sG) (.bl _)⟩
  · exact hf.elim
end
/-! ### slices -/
abbrev MO := DEnv → (Option Int → DEnv → Prop) → Prop
def tDO (K : PySem.W.Frag) (n : Nat) (m : MO) : TO := fun σ H Q => ∃ (W : Wd) (B : Nat) (G0 H0 G : Hp) (env : DEnv) (P : Option Int → DEnv → Prop), Rel K W (B + n) G0 H0 G env σ H ∧ m env P ∧
  ∀ o env' G' H', P o env' → Same G G' → Rel K W B G0 H0 G' env' σ H' → Q o H'
def oNone : MO := fun env P => P none env
def oSome (m : ME) : MO := fun env P => m env fun x e1 => match x with
  | .int i => P (some i) e1
  | _ => False
def cutD (xs : List D) (lo hi : Option Int) : List D := (xs.drop (HT.sIx xs.length 0 lo)).take (HT.sIx xs.length xs.length hi - HT.sIx xs.length 0 lo)
def dSl : D → Option Int → Option Int → (D → Prop) → Prop
  | .str z, lo, hi, P => z.length ≤ sizeLine ∧ P (.str (cutS z lo hi))
  | .list xs, lo, hi, P => P (.list (cutD xs lo hi))
  | .tuple xs, lo, hi, P => P (.tuple (cutD xs lo hi))
  | _, _, _, _ => False
def mSl (f : D → Option Int → Option Int → (D → Prop) → Prop) (m : ME) (lo hi : MO) : ME := fun env P => m env fun x e1 => lo e1 fun l e2 => hi e2 fun h e3 => f x l h fun z => P z e3
def rDSl (K : PySem.W.Frag) (f : D → Option Int → Option Int → (D → Prop) → Prop) : V → Option Int → Option Int → Hp → VK → Prop := fun x lo hi H Q => ∃ (G : Hp) (dx : D) (P : D → Prop), Same G H ∧ Dr K G x dx ∧ f dx lo hi P ∧
  ∀ z v G' H', P z → Grow G H G' H' → Dr K G' v z → Q v H'
theorem cut_v {K : PySem.W.Frag} {G : Hp} {vs : List V} {xs : List D} (h : DrAll K G vs xs) (lo hi : Option Int) : DrAll K G (cutV vs lo hi) (cutD xs lo hi) := by
  unfold cutV cutD
  rw [dpAll_len h]
  exact dpAll_take _ (dpAll_drop _ h)
section
variable {X : Cx} {e : Expr} {lo hi : Option Expr} {me : ME} {ml mh : MO} {pos p2 : Pos} {ne nl nh : Nat}
theorem po_imp {o : Option Expr} {t t' : TO} (h : PO X o t) (q : ∀ σ H Q, t' σ H Q → t σ H Q) : PO X o t' := ⟨fun pins s σ H Q I z => h.run pins s σ H Q I (q σ H Q z)⟩
theorem go_none : PO X none (tDO X.K 0 oNone) := po_imp po_none fun σ H Q h => by
  obtain ⟨W, B, G0, H0, G, env, P, R, hm, q⟩ := h
  exact q _ _ _ _ hm (Same.refl _) R
theorem go_some (he : GE X e ne me) : PO X (some e) (tDO X.K ne (oSome me)) := po_imp (po_some he) fun σ H Q h => by
  obtain ⟨W, B, G0, H0, G, env, P, R, hm, q⟩ := h
  refine ⟨W, B, G0, H0, G, env, _, R, hm, fun x e1 v G1 H1 p1 s1 R1 d1 => ?_⟩
  cases x with
  | int i =>
    cases dp_int d1
    exact ⟨i, rfl, q _ e1 G1 H1 p1 s1 R1⟩
  | _ => exact p1.elim
theorem sd_sl : SlR X (rDSl X.K dSl) := by
  intro pins s σ H x v vl vu lo hi sl Q I rx hs pl pu h
  obtain ⟨G, dx, P, sG, d1, hf, q⟩ := h
  unfold dSl at hf
  split at hf
  · cases dp_str d1
    exact sl_str pins s σ H _ v vl vu lo hi sl Q I rx hs pl pu ⟨_, rfl, hf.1, q _ _ G H hf.2 (Grow.refl sG) (.str _)⟩
  · obtain ⟨a, ws, rfl, h1, h2⟩ := dp_lst d1
    exact sl_list pins s σ H _ v vl vu lo hi sl Q I rx hs pl pu ⟨a, ws, rfl, SqL.of (sG _ _ h1), fun p hp => q _ _ _ _ hf (Grow.new1 sG hp) (.lst upd_same (dpAll_same (same_upd (sG.free hp)) (cut_v h2 lo hi)))⟩
  · obtain ⟨a, ws, rfl, h1, h2⟩ := dp_tup d1
    refine sl_tupA pins s σ H _ v vl vu lo hi sl Q I rx hs pl pu ⟨a, ws, rfl, same_sqT sG h1, fun e => ?_, fun _ p hp => q _ _ _ _ hf (Grow.new1 sG hp) (.tup (SqT.of upd_same) (dpAll_same (same_upd (sG.free hp)) (cut_v h2 lo hi)))⟩
    have e2 : cutD _ lo hi = _ := cut_all (xs := _) (by rw [← dpAll_len h2]; exact e)
    rw [e2] at hf
    exact q _ _ G H hf (Grow.refl sG) d1
  · exact hf.elim
where
  cut_all {xs : List D} {lo hi : Option Int} (h : HT.sIx xs.length 0 lo = 0 ∧ HT.sIx xs.length xs.length hi = xs.length) : cutD xs lo hi = xs := by
    unfold cutD
    rw [h.1, h.2]
    simp
theorem ge_slice {f : D → Option Int → Option Int → (D → Prop) → Prop} (hr : SlR X (rDSl X.K f)) (he : GE X e ne me) (hl : PO X lo (tDO X.K nl ml)) (hu : PO X hi (tDO X.K nh mh)) : GE X (.Subscript e (.Slice lo hi none p2) pos) (ne + (nl + nh)) (mSl f me ml mh) := pe_imp (pe_slice hr he hl hu) fun σ H Q h => by
  obtain ⟨W, B, G0, H0, G, env, P, R, hm, q⟩ := h
  refine ⟨W, B + (nl + nh), G0, H0, G, env, _, R.le (by omega), hm, fun x e1 v G1 H1 p1 s1 R1 d1 => ⟨W, B + nh, G0, H0, G1, e1, _, R1.le (by omega), p1, fun l e2 G2 H2 p2 s2 R2 => ⟨W, B, G0, H0, G2, e2, _, R2, p2, fun u e3 G3 H3 p3 s3 R3 => ?_⟩⟩⟩
  exact ⟨G3, x, _, R3.pub, dp_same (s2.trans s3) d1, p3, fun z w G4 H4 p4 g4 d4 => q z e3 w G4 H4 p4 (((s1.trans s2).trans s3).trans g4.eg) (R3.grow g4) d4⟩
/-- x[::-1] -/
def revS (z : Str) : Str := ⟨((Builtin.Str.strSliceIndices none none (-1) z.length).filterMap (z.cps[·]?)).toArray⟩
def dRev : D → (D → Prop) → Prop
  | .str z, P => (revS z).length ≤ sizeLine ∧ P (.str (revS z))
  | .list xs, P => P (.list xs.reverse)
  | _, _ => False
theorem pe_revS {k : Nat} {te : TE} {p1 p2 p3 : Pos} (he : PE X e te) : PE X (.Subscript e (.Slice none none (some (.UnaryOp .USub (.Constant (.int 1) k p1) p2)) p3) pos)
    (fun σ H Q => te σ H fun x H1 => ∃ z, x = .str z ∧ (revS z).length ≤ sizeLine ∧ Q (.str (revS z)) H1) := ⟨fun pins s σ H Q I h => by
  refine Subscript_ (thn (he.run pins s σ H _ I h) fun v s1 ⟨x, H1, I1, r1, z, ex, hz, q⟩ => ?_)
  subst ex
  obtain ⟨t, rfl⟩ := r1
  have part : PO X (some (.UnaryOp .USub (.Constant (.int 1) k p1) p2)) (tPart (tUn (rU fun i => .int (-i)) (tC (.int 1)))) := po_some (pe_un un_neg pe_int)
  refine wpAny_Slice (thn (po_none.run pins s1 σ H1 (fun o H2 => o = none ∧ H2 = H1) I1 ⟨rfl, rfl⟩) fun vl s2 ⟨l, H2, I2, pl, el, e2⟩ => ?_)
  subst el e2
  refine thn (po_none.run pins s2 σ H2 (fun o H3 => o = none ∧ H3 = H2) I2 ⟨rfl, rfl⟩) fun vu s3 ⟨u, H3, I3, pu, eu, e3⟩ => ?_
  subst eu e3
  refine thn (part.run pins s3 σ H3 (fun o H4 => o = some (-1) ∧ H4 = H3) I3 ⟨1, rfl, -1, rfl, rfl, rfl⟩) fun vs s4 ⟨o, H4, I4, ps, eo, e4⟩ => ?_
  subst eo e4
  obtain ⟨l', rfl, el'⟩ := IsPart.raw pl
  obtain ⟨u', rfl, eu'⟩ := IsPart.raw pu
  obtain ⟨w', rfl, ew'⟩ := IsPart.raw ps
  have I5 : Inv X pins σ H4 { s4 with heap := s4.heap.push { cls := .type "slice", data := .fields #[partValue l', partValue u', partValue w'] } } := I4.kept (t' := s4.toks) fun b ob q => Heap.get?_push_of_some _ q
  refine tail_any (T := "str") (ops := [.str z t, .ref s4.heap.objs.size]) (typeIs_str _ _ _) F.slot_str_getitem.lookup ?_ (by with_unfolding_all rfl)
  refine wpAny_getItem_str_slice (l := l') (u := u') (st := w') ⟨_, Heap.get?_push_size _ rfl, rfl, rfl⟩ ?_ ?_
  · rw [ew']
    rfl
  · have hl : l'.map (·.1) = none := el'
    have hu : u'.map (·.1) = none := eu'
    have hw : w'.map (·.1) = some (-1) := ew'
    unfold sliceMade slicePicked
    rw [hl, hu, hw]
    exact ⟨hz, .str _, H4, I5.tok _, ⟨_, rfl⟩, q⟩⟩
theorem pe_or2 {t1 t2 : TE} {m : ME} {n : Nat} {e1 : Expr} (h1 : PE X e1 t1) (h2 : PE X e1 t2) (q : ∀ σ H Q, tD X.K n m σ H Q → t1 σ H Q ∨ t2 σ H Q) : GE X e1 n m := ⟨fun pins s σ H Q I z => (q σ H Q z).elim (fun z => h1.run pins s σ H Q I z) fun z => h2.run pins s σ H Q I z⟩
/-- of a text -/
def dRevS : D → (D → Prop) → Prop
  | .str z, P => (revS z).length ≤ sizeLine ∧ P (.str (revS z))
  | _, _ => False
def dRevL : D → (D → Prop) → Prop
  | .list xs, P => P (.list xs.reverse)
  | _, _ => False
theorem ge_revS {k : Nat} {p1 p2 p3 : Pos} (he : GE X e ne me) : GE X (.Subscript e (.Slice none none (some (.UnaryOp .USub (.Constant (.int 1) k p1) p2)) p3) pos) ne (mUn dRevS me) := pe_imp (pe_revS he) fun σ H Q h => by
  obtain ⟨W, B, G0, H0, G, env, P, R, hm, q⟩ := h
  refine ⟨W, B, G0, H0, G, env, _, R, hm, fun x e1 v G1 H1 p1 s1 R1 d1 => ?_⟩
  cases x with
  | str z =>
    cases dp_str d1
    exact ⟨z, rfl, p1.1, q _ e1 _ G1 H1 p1.2 s1 R1 (.str _)⟩
  | _ => exact p1.elim
theorem ge_revL {k : Nat} {p1 p2 p3 : Pos} (he : GE X e ne me) : GE X (.Subscript e (.Slice none none (some (.UnaryOp .USub (.Constant (.int 1) k p1) p2)) p3) pos) ne (mUn dRevL me) := pe_imp (pe_revL he) fun σ H Q h => by
  obtain ⟨W, B, G0, H0, G, env, P, R, hm, q⟩ := h
  refine ⟨W, B, G0, H0, G, env, _, R, hm, fun x e1 v G1 H1 p1 s1 R1 d1 => ?_⟩
  cases x with
  | list xs =>
    obtain ⟨a, ws, rfl, h1, h2⟩ := dp_lst d1
    refine ⟨a, ws, rfl, SqL.of (R1.pub _ _ h1), fun p hp => ?_⟩
    have g := Grow.new1 (o := .lst ws.reverse) R1.pub hp
    exact q _ e1 _ _ _ p1 (s1.trans g.eg) (R1.grow g) (.lst upd_same (dpAll_same g.eg (dpAll_rev h2)))
  | _ => exact p1.elim
end
end DL
namespace DL
open PySem PySem.Spec PyProof.Rows L2
/-! ### bits -/
def Bt (b : Nat) (i : Int) : Prop := i.natAbs < 2 ^ b
theorem Bt.add {a b c : Nat} {i j : Int} (h : Bt a i) (k : Bt b j) (ha : a + 1 ≤ c) (hb : b + 1 ≤ c) : Bt c (i + j) := by
  unfold Bt at *
  have h1 : 2 ^ a * 2 ≤ 2 ^ c := by rw [← Nat.pow_succ]; exact Nat.pow_le_pow_right (by decide) ha
  have h2 : 2 ^ b * 2 ≤ 2 ^ c := by rw [← Nat.pow_succ]; exact Nat.pow_le_pow_right (by decide) hb
  omega
theorem Bt.mul {a b : Nat} {i j : Int} (h : Bt a i) (k : Bt b j) : Bt (a + b) (i * j) := by
  unfold Bt at *
  rw [Int.natAbs_mul, Nat.pow_add]
  exact Nat.mul_lt_mul'' h k
theorem Bt.mono {a b : Nat} {i : Int} (h : Bt a i) (l : a ≤ b) : Bt b i := Nat.lt_of_lt_of_le h (Nat.pow_le_pow_right (by decide) l)
theorem Bt.mulx {a b : Nat} {i j : Int} (h : Bt a i) (k : Bt b j) (l : a + b ≤ 134217728) : CMulX i j := mulx_ok h k l
theorem ct_bits {i : Int} {B : Nat} (h0 : 0 ≤ i) (h : i + (B : Int) ≤ (ctMax : Int)) : Bt 100001 i := by
  unfold Bt
  have e : ctMax = 2 ^ 100000 := by unfold ctMax; rfl
  have l : (2 : Nat) ^ 100001 = 2 ^ 100000 * 2 := Nat.pow_succ 2 100000
  rw [l, ← e]
  have p : 0 < ctMax := by rw [e]; exact Nat.two_pow_pos _
  omega
theorem bigM_bits {i : Int} (h0 : 0 ≤ i) (h : i < bigM) : Bt 127 i := by
  unfold Bt bigM at *
  have : (170141183460469231731687303715884105727 : Int) ≤ 2 ^ 127 := by decide
  omega
/-! ### the deck's dict -/
theorem key_cs : ¬ ((Sum.inr ("cells" : Str) : Key) = Sum.inr ("seed" : Str)) := by decide +kernel
theorem key_ca : ¬ ((Sum.inr ("cells" : Str) : Key) = Sum.inr ("at" : Str)) := by decide +kernel
theorem key_sa : ¬ ((Sum.inr ("seed" : Str) : Key) = Sum.inr ("at" : Str)) := by decide +kernel
theorem deck_cells (c : Addr) (seed ct : Int) : valV (deckKv c seed ct) (Sum.inr ("cells" : Str)) = some (.ref c) := valV_pos rfl
theorem deck_seed (c : Addr) (seed ct : Int) : valV (deckKv c seed ct) (Sum.inr ("seed" : Str)) = some (.int seed) := by
  unfold deckKv
  rw [valV_neg key_cs, valV_pos rfl]
theorem deck_at (c : Addr) (seed ct : Int) : valV (deckKv c seed ct) (Sum.inr ("at" : Str)) = some (.int ct) := by
  unfold deckKv
  rw [valV_neg key_ca, valV_neg key_sa, valV_pos rfl]
theorem deck_put (c : Addr) (seed ct ct' : Int) : putK (deckKv c seed ct) (Sum.inr ("at" : Str)) (.int ct') = deckKv c seed ct' := by
  unfold putK
  rw [valV_any, deck_at]
  rw [if_pos (show (some (V.int ct)).isSome = true from rfl)]
  unfold deckKv
  simp only [List.map_cons, List.map_nil, if_neg key_ca, if_neg key_sa, if_true]
theorem get_at {H : Hp} {dk c : Addr} {seed ct : Int} (h : H dk = some (.dK (deckKv c seed ct))) : DGet H dk (.str "at") (some (.int ct)) := by
  have := DGet.k (k := Sum.inr ("at" : Str)) h
  rw [deck_at] at this
  exact this
theorem get_seed {H : Hp} {dk c : Addr} {seed ct : Int} (h : H dk = some (.dK (deckKv c seed ct))) : DGet H dk (.str "seed") (some (.int seed)) := by
  have := DGet.k (k := Sum.inr ("seed" : Str)) h
  rw [deck_seed] at this
  exact this
theorem get_cells {H : Hp} {dk c : Addr} {seed ct : Int} (h : H dk = some (.dK (deckKv c seed ct))) : DGet H dk (.str "cells") (some (.ref c)) := by
  have := DGet.k (k := Sum.inr ("cells" : Str)) h
  rw [deck_cells] at this
  exact this
theorem dp_ints {K : PySem.W.Frag} {H : Hp} : ∀ ns : List Int, DpAll K H (ns.map V.int) (ns.map PyData.int)
  | [] => .nil
  | n :: r => .cons (.int n) (dp_ints r)
theorem shaped_ints (ns : List Int) : SeqAt.shaped (.list (ns.map PyData.int)) = true := by
  have h1 : PyData.canLayAll0 (ns.map PyData.int) = true := by
    induction ns with
    | nil => rfl
    | cons n r ih => rw [List.map_cons, PyData.canLayAll0, ih]; rfl
  have h2 : PyData.depthAll (ns.map PyData.int) = 0 := by
    induction ns with
    | nil => rfl
    | cons n r ih => 
      have := ih (by
        rw [List.map_cons, PyData.canLayAll0, Bool.and_eq_true] at h1
        exact h1.2)
      rw [List.map_cons, PyData.depthAll, this]
      rfl
  unfold SeqAt.shaped
  rw [PyData.canLay0, h1, PyData.depth, h2]
  rfl
/-! ### a draw -/
def spDraw : List EV → (D → Prop) → Prop := fun as P => ∃ n : Int, as = [.hd, .d (.int n)] ∧ 0 < n ∧ n < 2 ^ 64 ∧ ∀ r : Int, 0 ≤ r → r < n → P (.int r)
abbrev rMulX : R2 := rI CMulX fun i j => .int (i * j)
abbrev rModP : R2 := rI (fun _ j => 0 < j) fun i j => .int (i % j)
abbrev rAddI : R2 := rI0 fun i j => .int (i + j)
def tDraw (K : PySem.W.Frag) : TS :=
  tSeq (sDPut (tVar 0) (tC (.str "at")) (tOp rAddI (tDGet (tVar 0) (tC (.str "at"))) (tC (.int 1))))
  (tSeq (tAsg (tDGet (tVar 0) (tC (.str "at"))) (gName 2))
  (tSeq (tAsg (tOp rAddI (tDGet (tVar 0) (tC (.str "seed"))) (tOp rMulX (tOp rMulX (tC (.int 7919)) (tVar 2)) (tVar 2))) (gName 3))
  (tSeq (tIfS (tTest (tOp (rNeD K) (tDGet (tVar 0) (tC (.str "cells"))) (tLst tNil)))
    (tSeq (tAsg (tBM0 K "list" rPop (tDGet (tVar 0) (tC (.str "cells")))) (gName 4))
    (tSeq (tIfS (tTest (tOp (rI0 fun i j => .bl (decide (j ≤ i))) (tVar 4) (tOp (rI CPow fun i j => .int (i ^ j.toNat)) (tC (.int 10)) (tC (.int 18)))))
      (tSeq (tDrop (tBM K "list" rAppend (tDGet (tVar 0) (tC (.str "cells"))) (tCons (tOp (rI CDivW fun i j => .int (i / j)) (tVar 4) (tVar 1)) tNil)))
        (tRet (tOp rModP (tVar 4) (tVar 1)))) tNext)
    (tAsg (tOp rAddI (tVar 3) (tOp rMulX (tC (.int 69621)) (tVar 4))) (gName 3)))) tNext)
  (tSeq (tAsg (tOp rModP (tOp rMulX (tVar 3) (tOp rAddI (tVar 3) (tOp rMulX (tC (.int 48271)) (tVar 2)))) (tC (.int 170141183460469231731687303715884105727))) (gName 3))
  (tSeq (tAsg (tOp rModP (tOp rAddI (tOp rMulX (tVar 3) (tVar 3)) (tOp rMulX (tC (.int 104729)) (tVar 2))) (tC (.int 170141183460469231731687303715884105727))) (gName 3))
  (tRet (tOp rModP (tOp (rI CDiv fun i j => .int (i / j)) (tVar 3) (tC (.int 1048576))) (tVar 1))))))))
/-- the deck behind a draw -/
theorem deck_rw {dk c : Addr} {B : Nat} {G H H' : Hp} {cells : List Int} {seed ct : Int} (r : RW (.of (some (dk, c))) (B + 1) G H G H) (ne : dk ≠ c) (h1 : H' dk = some (.dK (deckKv c seed ct))) (h2 : H' c = some (.lst (cells.map V.int))) (h3 : cells.length ≤ 63)
    (h4 : ∀ z ∈ cells, Builtin.Int.intBits z ≤ 1048576) (h5 : 0 ≤ seed) (h6 : seed < bigM) (h7 : 0 ≤ ct) (h8 : ct + (B : Int) ≤ (ctMax : Int)) (hf : ∀ a o, H a = some o → a ≠ dk → a ≠ c → H' a = some o) : RW (.of (some (dk, c))) B G H G H' where
  g0 := Same.refl _
  pub := fun a o e => by
    have hH := r.pub a o e
    have n1 : a ≠ dk := fun z => by
      subst z
      rw [r.gm a (.inl (.inl rfl))] at e
      cases e
    have n2 : a ≠ c := fun z => by
      subst z
      rw [r.gm a (.inl (.inr rfl))] at e
      cases e
    exact hf a o hH n1 n2
  gm := r.gm
  inv := of_inv.mpr ⟨ne, cells, seed, ct, h1, h2, h3, h4, h5, h6, h7, h8⟩
  fr := fun a o e m => hf a o e (fun z => m (.inl (.inl z))) fun z => m (.inl (.inr z))
  pn := fun a o e e0 => by rw [e] at e0; cases e0
theorem draw_end {x n : Int} (n0 : 0 < n) : 0 ≤ x % n ∧ x % n < n := ⟨Int.emod_nonneg _ (by omega), Int.emod_lt_of_pos _ n0⟩
theorem bits_of {z : Int} {k : Nat} (h : Builtin.Int.intBits z ≤ k) : Bt k z := Nat.lt_of_lt_of_le (PyProof.Rows.natAbs_lt_pow_bits z) (Nat.pow_le_pow_right (by decide) h)
/-- from the mixing on -/
theorem draw_mix {D : Ends} {dk : Addr} {n ct mx : Int} {o4 : Option V} {H : Hp} (n0 : 0 < n) (hb : Bt 100001 ct) (hm : Bt 1250000 mx) (q : ∀ r : Int, 0 ≤ r → r < n → D.rt (.int r) H) :
    (tSeq (tAsg (tOp rModP (tOp rMulX (tVar 3) (tOp rAddI (tVar 3) (tOp rMulX (tC (.int 48271)) (tVar 2)))) (tC (.int 170141183460469231731687303715884105727))) (gName 3))
    (tSeq (tAsg (tOp rModP (tOp rAddI (tOp rMulX (tVar 3) (tVar 3)) (tOp rMulX (tC (.int 104729)) (tVar 2))) (tC (.int 170141183460469231731687303715884105727))) (gName 3))
    (tRet (tOp rModP (tOp (rI CDiv fun i j => .int (i / j)) (tVar 3) (tC (.int 1048576))) (tVar 1))))) D [some (.ref dk), some (.int n), some (.int ct), some (.int mx), o4] H := by
  have c1 : Bt 17 48271 := by unfold Bt; decide
  have c2 : Bt 17 104729 := by unfold Bt; decide
  have hs : Bt 1250001 (mx + 48271 * ct) := hm.add (c1.mul hb) (by omega) (by omega)
  have hM : ∀ x : Int, Bt 127 (x % 170141183460469231731687303715884105727) := fun x => bigM_bits (draw_end (by decide)).1 (draw_end (by decide)).2
  refine ⟨_, rfl, _, rfl, _, rfl, _, _, rfl, rfl, c1.mulx hb (by omega), _, _, rfl, rfl, _, _, rfl, rfl, hm.mulx hs (by omega), _, _, rfl, rfl, (show (0 : Int) < 170141183460469231731687303715884105727 by decide), ?_⟩
  refine ⟨_, rfl, _, rfl, _, _, rfl, rfl, (hM _).mulx (hM _) (by omega), _, rfl, _, _, rfl, rfl, c2.mulx hb (by omega), _, _, rfl, rfl, _, _, rfl, rfl, (show (0 : Int) < 170141183460469231731687303715884105727 by decide), ?_⟩
  refine ⟨_, rfl, _, _, rfl, rfl, ⟨by decide, by decide⟩, _, rfl, _, _, rfl, rfl, n0, ?_⟩
  exact q _ (draw_end n0).1 (draw_end n0).2
theorem draw_reads {K : PySem.W.Frag} {W : Wk} {B : Nat} {G H : Hp} {vs : List V} {n : Int} {Pd : PyData → Prop} {Q : VK} {nx : L2.St → Hp → Prop} (r : RW (.of W) (B + 1) G H G H) (a : ArgsOk K W G vs [.hd, .d (.int n)]) (n0 : 0 < n) (n1 : n < 2 ^ 64)
    (hP : ∀ r : Int, 0 ≤ r → r < n → Pd (.int r)) (q : ∀ x v G' H', Pd x → RW (.of W) B G H G' H' → Dr K G' v x → Q v H') : tDraw K { nx := nx, rt := Q } (vs.map some ++ [none, none, none]) H := by
  cases a with
  | cons a1 a2 =>
    cases a2 with
    | cons a2 a3 =>
      cases a3
      obtain ⟨rfl, nn⟩ := a1
      cases dp_int a2
      cases W with
      | none => exact absurd rfl nn
      | some p =>
        obtain ⟨dk, c⟩ := p
        obtain ⟨ne, cells, seed, ct, h1, h2, h3, h4, h5, h6, h7, h8⟩ := r.inv.1
        have h8' : (ct + 1) + (B : Int) ≤ (ctMax : Int) := by omega
        have hb : Bt 100001 (ct + 1) := ct_bits (by omega) h8'
        have c0 : Bt 13 7919 := by unfold Bt; decide
        have b1 : Bt 100014 (7919 * (ct + 1)) := (c0.mul hb).mono (by omega)
        have b2 : Bt 200015 (7919 * (ct + 1) * (ct + 1)) := (b1.mul hb).mono (by omega)
        have b3 : Bt 200016 (seed + 7919 * (ct + 1) * (ct + 1)) := (bigM_bits h5 h6).add b2 (by omega) (by omega)
        -- at = at + 1
        show tDraw K { nx := nx, rt := Q } [some (.ref dk), some (.int n), none, none, none] H
        refine ⟨_, rfl, dk, _, rfl, get_at h1, _, _, rfl, rfl, _, rfl, dk, _, rfl, DPut.k (k := Sum.inr ("at" : Str)) h1 (show (3 : Nat) < sizeLine by decide), ?_⟩
        rw [deck_put]
        generalize hH1 : upd H dk (.dK (deckKv c seed (ct + 1))) = H1
        have g1 : H1 dk = some (.dK (deckKv c seed (ct + 1))) := by rw [← hH1]; exact upd_same
        have g2 : H1 c = some (.lst (cells.map V.int)) := by rw [← hH1, upd_ne ne.symm]; exact h2
        have g3 : ∀ a o, H a = some o → a ≠ dk → a ≠ c → H1 a = some o := fun a o e z _ => by rw [← hH1, upd_ne z]; exact e
        refine ⟨_, rfl, dk, _, rfl, get_at g1, ?_⟩
        refine ⟨_, rfl, dk, _, rfl, get_seed g1, _, rfl, _, _, rfl, rfl, c0.mulx hb (by omega), _, rfl, _, _, rfl, rfl, b1.mulx hb (by omega), _, _, rfl, rfl, ?_⟩
        -- the cells
        refine ⟨_, rfl, dk, _, rfl, get_cells g1, Nat.zero_le _, fun l hl => ?_⟩
        have nl : ∀ b o, H1 b = some o → upd H1 l (.lst []) b = some o := same_upd hl
        have k1 := nl _ _ g1
        have k2 := nl _ _ g2
        have k3 : ∀ a o, H a = some o → a ≠ dk → a ≠ c → upd H1 l (.lst []) a = some o := fun a o e z1 z2 => nl _ _ (g3 a o e z1 z2)
        refine ⟨.list (cells.map PyData.int), .list [], .lst (SqL.of k2) (dp_ints cells), .lst (SqL.of upd_same) .nil, shaped_ints cells, rfl, _, rfl, ?_⟩
        generalize hH2 : upd H1 l (.lst []) = H2 at *
        by_cases hc : cells = []
        · subst hc
          refine iteF ?_
          refine draw_mix (ct := ct + 1) n0 hb (b3.mono (by omega)) fun r1 r2 r3 => ?_
          exact q _ _ G H2 (hP r1 r2 r3) (deck_rw (cells := []) r ne k1 k2 (by decide) (fun z hz => by cases hz) h5 h6 (by omega) h8' k3) (.int _)
        · obtain ⟨pre, z, rfl⟩ : ∃ pre z, cells = pre ++ [z] := ⟨cells.dropLast, cells.getLast hc, (List.dropLast_concat_getLast hc).symm⟩
          have ev : PyData.eqv (.list ((pre ++ [z]).map PyData.int)) (.list []) = false := by
            cases pre <;> rfl
          rw [ev]
          refine iteT ?_
          have hz : Bt 1048576 z := bits_of (h4 z (by simp))
          -- pop
          have pop : ((pre ++ [z]).map V.int)[((pre ++ [z]).map V.int).length - 1]? = some (.int z) := by
            rw [List.map_append]
            simp
          refine ⟨_, rfl, dk, _, rfl, get_cells k1, .inl ⟨rfl, _, SqL.of k2⟩, c, _, _, rfl, rfl, k2, pop, ?_⟩
          have dl : ((pre ++ [z]).map V.int).dropLast = pre.map V.int := by rw [List.map_append]; simp
          rw [dl]
          generalize hH3 : upd H2 c (.lst (pre.map V.int)) = H3
          have m1 : H3 dk = some (.dK (deckKv c seed (ct + 1))) := by rw [← hH3, upd_ne ne]; exact k1
          have m2 : H3 c = some (.lst (pre.map V.int)) := by rw [← hH3]; exact upd_same
          have m3 : ∀ a o, H a = some o → a ≠ dk → a ≠ c → H3 a = some o := fun a o e z1 z2 => by rw [← hH3, upd_ne z2]; exact k3 a o e z1 z2
          have lp : pre.length ≤ 63 := by
            rw [List.length_append] at h3
            omega
          have hp : ∀ y ∈ pre, Builtin.Int.intBits y ≤ 1048576 := fun y hy => h4 y (List.mem_append_left _ hy)
          refine ⟨_, rfl, _, _, rfl, rfl, ⟨by decide, by decide, by decide⟩, _, _, rfl, rfl, _, rfl, ite2 (fun e => ?_) (fun e => ?_)⟩
          · have big : (10 : Int) ^ (18 : Int).toNat ≤ z := of_decide_eq_true e
            have z0 : 0 ≤ z := Int.le_trans (by decide) big
            have bn : n.natAbs < 2 ^ 64 := by omega
            refine ⟨_, rfl, dk, _, rfl, get_cells m1, .inl ⟨rfl, _, SqL.of m2⟩, _, rfl, _, rfl, _, _, rfl, rfl, wide_div n0 bn (by decide) (by decide), c, _, _, rfl, rfl, m2, ?_, ?_⟩
            · rw [List.length_map]
              exact small1000 (by omega)
            · refine ⟨_, rfl, _, rfl, _, _, rfl, rfl, n0, ?_⟩
              have el : pre.map V.int ++ [V.int (z / n)] = (pre ++ [z / n]).map V.int := by rw [List.map_append]; rfl
              rw [el]
              have qz : Builtin.Int.intBits (z / n) ≤ 1048576 := by
                refine PyProof.Rows.intBits_le (Nat.lt_of_le_of_lt ?_ hz)
                have h0 : 0 ≤ z / n := Int.ediv_nonneg z0 (by omega)
                have h1 : z / n ≤ z := Int.ediv_le_self _ z0
                omega
              refine q _ _ G _ (hP _ (draw_end n0).1 (draw_end n0).2) (deck_rw (cells := pre ++ [z / n]) r ne ?_ upd_same (by rw [List.length_append] at h3 ⊢; exact h3) ?_ h5 h6 (by omega) h8' fun a o e z1 z2 => ?_) (.int _)
              · rw [upd_ne ne]
                exact m1
              · intro y hy
                rcases List.mem_append.mp hy with hy | hy
                · exact hp y hy
                · cases List.mem_singleton.mp hy
                  exact qz
              · rw [upd_ne z2]
                exact m3 a o e z1 z2
          · have c3 : Bt 17 69621 := by unfold Bt; decide
            have b4 : Bt 1048593 (69621 * z) := (c3.mul hz).mono (by omega)
            refine ⟨_, rfl, _, rfl, _, _, rfl, rfl, c3.mulx hz (by omega), _, _, rfl, rfl, ?_⟩
            refine draw_mix (ct := ct + 1) n0 hb ((b3.add b4 (by omega : 200016 + 1 ≤ 1048594) (by omega)).mono (by omega)) fun r1 r2 r3 => ?_
            exact q _ _ G H3 (hP r1 r2 r3) (deck_rw (cells := pre) r ne m1 m2 lp hp h5 h6 (by omega) h8' m3) (.int _)
end DL
namespace DL
open PySem PySem.Spec PyProof.Rows L2
/-! ### the deck made -/
def spDeck (K : PySem.W.Frag) : Sp := fun vs H Q _ => ∃ (a : Addr) (ns : List Int), vs = [.ref a] ∧ SqL K H a (ns.map V.int) ∧ ns.length ≤ 63 ∧ (∀ z ∈ ns, Builtin.Int.intBits z ≤ 1048576) ∧
  ∀ H' dk c, Same H H' → H dk = none → H c = none → deckInv dk c ctMax H' → Q (.ref dk) H'
def tDeck (K : PySem.W.Frag) (rList rLen : List V → Hp → VK → Prop) : TS :=
  tSeq (tAsg (tCB rList (tCons (tSl (rSlL K) (tVar 0) tNoPart (tPart (tC (.int 63)))) tNil)) (gName 1))
  (tSeq (tAsg (tOp rAddI (tC (.int 104729)) (tCB rLen (tCons (tVar 1) tNil))) (gName 2))
  (tSeq (tFor (iList K (tVar 1)) (gName 3) (tAsg (tOp rModP (tOp rAddI (tOp rMulX (tVar 2) (tC (.int 1000003))) (tVar 3)) (tC (.int 170141183460469231731687303715884105727))) (gName 2)))
  (tRet (tDisp [(tC (.str "cells"), tRevL K (tVar 1)), (tC (.str "seed"), tVar 2), (tC (.str "at"), tC (.int 0))]))))
theorem cut63 (ns : List Int) : ∃ ms : List Int, cutV (ns.map V.int) none (some 63) = ms.map V.int ∧ ms.length ≤ 63 ∧ ∀ z ∈ ms, z ∈ ns := by
  refine ⟨(ns.drop (HT.sIx ns.length 0 none)).take (HT.sIx ns.length ns.length (some 63) - HT.sIx ns.length 0 none), ?_, ?_, fun z hz => ?_⟩
  · unfold cutV
    rw [List.length_map, ← List.map_drop, ← List.map_take]
  · rw [List.length_take]
    have h1 : HT.sIx ns.length ns.length (some 63) = min 63 ns.length := HT.sIx_nat ns.length ns.length 63
    rw [h1]
    omega
  · exact List.mem_of_mem_drop (List.mem_of_mem_take hz)
theorem deck_reads {K : PySem.W.Frag} {vs : List V} {H : Hp} {Q : VK} {E : XK} {nx : L2.St → Hp → Prop} (h : spDeck K vs H Q E) :
    tDeck K (fun xs H Q => ∃ p ys, xs = [.ref p] ∧ (SqL K H p ys ∨ SqT K H p ys) ∧ ∀ l, H l = none → Q (.ref l) (upd H l (.lst ys))) (fun xs H Q => ∃ p ys, xs = [.ref p] ∧ (SqL K H p ys ∨ SqT K H p ys) ∧ Q (.int ys.length) H)
      { nx := nx, rt := Q } (vs.map some ++ [none, none, none]) H := by
  obtain ⟨a, ns, rfl, hS, hl, hb, q⟩ := h
  obtain ⟨ms, e1, l1, b1⟩ := cut63 ns
  have hb2 : ∀ z ∈ ms, Builtin.Int.intBits z ≤ 1048576 := fun z hz => hb z (b1 z hz)
  refine ⟨_, rfl, _, rfl, a, _, rfl, hS, fun p1 n1 => ⟨p1, _, rfl, .inl (SqL.of upd_same), fun c0 n2 => ?_⟩⟩
  rw [e1] at n2 ⊢
  have s2 : Same H (upd (upd H p1 (.lst (ms.map V.int))) c0 (.lst (ms.map V.int))) := (same_upd n1).trans (same_upd n2)
  have hH0 : (upd (upd H p1 (.lst (ms.map V.int))) c0 (.lst (ms.map V.int))) c0 = some (.lst (ms.map V.int)) := upd_same
  generalize upd (upd H p1 (.lst (ms.map V.int))) c0 (.lst (ms.map V.int)) = H1 at *
  refine ⟨_, rfl, c0, _, rfl, .inl (SqL.of hH0), _, _, rfl, rfl, ?_⟩
  refine ⟨_, rfl, c0, rfl, ⟨_, SqL.of hH0⟩, ?_⟩
  refine for_list (xs := ms.map V.int) (fun _ σ H' => H' = H1 ∧ ∃ (seed : Int) (o : Option V), σ = [some (.ref a), some (.ref c0), some (.int seed), o] ∧ 0 ≤ seed ∧ seed < bigM) ⟨rfl, _, none, rfl, ?_, ?_⟩ (fun i σ H' _ p => by rw [p.1]; exact SqL.of hH0) (fun i x σ H' hx p => ?_) (fun σ H' p => ?_)
  · rw [List.length_map]
    omega
  · rw [List.length_map]
    unfold bigM
    omega
  · obtain ⟨rfl, seed, o, rfl, h0, h1⟩ := p
    rw [List.getElem?_map] at hx
    obtain ⟨z, hz, rfl⟩ := Option.map_eq_some_iff.mp hx
    have bz : Bt 1048576 z := bits_of (hb2 z (List.mem_of_getElem? hz))
    have c1 : Bt 20 1000003 := by unfold Bt; decide
    refine ⟨_, rfl, _, _, rfl, rfl, (bigM_bits h0 h1).mulx c1 (by omega), _, rfl, _, _, rfl, rfl, _, _, rfl, rfl, (show (0 : Int) < 170141183460469231731687303715884105727 by decide), rfl, _, _, rfl, ?_⟩
    exact draw_end (by decide)
  · obtain ⟨rfl, seed, o, rfl, h0, h1⟩ := p
    intro dk nd
    refine ⟨_, rfl, c0, _, rfl, SqL.of ((same_upd nd) _ _ hH0), fun c nc => ⟨_, rfl, ?_⟩⟩
    have ne : dk ≠ c := fun z => by
      subst z
      rw [upd_same] at nc
      cases nc
    have ncH : H' c = none := (same_upd nd).free nc
    refine ⟨by rw [upd_ne ne]; exact upd_same, [(Sum.inr "cells", .ref c), (Sum.inr "seed", .int seed), (Sum.inr "at", .int 0)], rfl, (show (3 : Nat) ≤ 15 by decide), ?_⟩
    have mk : mergeK [] [(Sum.inr ("cells" : Str), V.ref c), (Sum.inr ("seed" : Str), .int seed), (Sum.inr ("at" : Str), .int 0)] = deckKv c seed 0 := by
      unfold mergeK
      rw [List.foldl_cons, List.foldl_cons, List.foldl_cons, List.foldl_nil]
      rw [putK_new _ (show valV ([] : List (Key × V)) (Sum.inr ("cells" : Str)) = none from rfl)]
      rw [putK_new _ (show valV ([] ++ [((Sum.inr ("cells" : Str) : Key), V.ref c)]) (Sum.inr ("seed" : Str)) = none by rw [List.nil_append, valV_neg key_cs]; rfl)]
      rw [putK_new _ (show valV ([] ++ [((Sum.inr ("cells" : Str) : Key), V.ref c)] ++ [(Sum.inr ("seed" : Str), .int seed)]) (Sum.inr ("at" : Str)) = none by
        rw [List.nil_append]
        show valV [((Sum.inr ("cells" : Str) : Key), V.ref c), (Sum.inr ("seed" : Str), .int seed)] (Sum.inr ("at" : Str)) = none
        rw [valV_neg key_ca, valV_neg key_sa]
        rfl)]
      rfl
    rw [mk]
    refine q _ dk c ?_ (s2.free nd) (s2.free ncH) ⟨ne, ms.reverse, seed, 0, upd_same, ?_, by rw [List.length_reverse]; exact l1, fun z hz => hb2 z (List.mem_reverse.mp hz), h0, h1, Int.le_refl 0, by omega⟩
    · intro b u e
      have e2 := s2 b u e
      have n1 : b ≠ dk := ne_of_none e2 nd
      have n2 : b ≠ c := ne_of_none e2 ncH
      rw [upd_ne n1, upd_ne n2, upd_ne n1]
      exact e2
    · rw [upd_ne ne.symm, upd_same, List.map_reverse]
end DL
namespace DL
open PySem PySem.Spec PyProof.Rows L2
/-! ### calls by keywords alone, in the parameters' order -/
structure CalK (P : Program) (w : World) (K : PySem.W.Frag) (mg : Str → Option Value) (base : Heap) (x : Str) (k : Nat) (ps : List Str) (c : Nat) (sp : List EV → (D → Prop) → Prop) : Prop where
  ex : ∃ f fd, FnG P w K mg base CX0 k f fd ps (spD K c sp) ∧ mg x = some (.ref f) ∧ PySem.W.keepIn K (.ref f) = true ∧ ∀ (s : Shared) (us : List Value), us.length = ps.length → BindsTo s fd ⟨[], ps.zip us⟩ (ps.zip us)
abbrev GK (X : Cx) (kws : List Keyword) (n : Nat) (m : MA) : Prop := PK X kws (tA X.K n m)
theorem pk_imp {X : Cx} {kws : List Keyword} {t t' : TA} (h : PK X kws t) (q : ∀ σ H Q, t' σ H Q → t σ H Q) : PK X kws t' := ⟨fun p pins s σ H Q I z => h.run p pins s σ H Q I (q σ H Q z)⟩
section
variable {X : Cx} {k c : Nat} {ps : List Str} {sp : List EV → (D → Prop) → Prop} {x : Str} {p pos kpos : Pos} {e : Expr} {kws : List Keyword} {m1 : MA} {me : ME} {n1 ne : Nat} {nm : Option Str}
theorem gk_nil : GK X [] 0 mNil := pk_imp pk_nil fun σ H Q h => by
  obtain ⟨W, B, G0, H0, G, env, P, R, hm, q⟩ := h
  exact q _ _ _ _ _ hm (Same.refl _) R .nil
theorem gk_cons (ha : GE X e ne me) (hr : GK X kws n1 m1) : GK X (⟨nm, e, kpos⟩ :: kws) (ne + n1) (mCons me m1) := pk_imp (pk_cons ha hr) fun σ H Q h => by
  obtain ⟨W, B, G0, H0, G, env, P, R, hm, q⟩ := h
  refine ⟨W, B + n1, G0, H0, G, env, _, R.le (by omega), hm, fun x e1 v G1 H1 p1 s1 R1 d1 => ⟨W, _, G0, H0, G1, e1, _, R1, p1, fun as e2 vs G2 H2 p2 s2 R2 d2 => ?_⟩⟩
  exact q _ e2 _ G2 H2 p2 (s1.trans s2) R2 (.cons (a := .d x) (dp_same s2 d1) d2)
theorem ge_calK (C : CalK X.prog X.w X.K X.mg X.base x k ps c sp) (r : Rm k X.A) (hg : Gl X x) (hkw : GK X kws n1 m1)
    (hall : (backToKw pos (keywordEach kws X.env)).all (·.1.isSome) = true := by rfl) (hks : (backToKw pos (keywordEach kws X.env)).filterMap (·.1) = ps := by rfl) (hdb : (x == ("__debug__" : Str)) = false := by decide)
    (hpl : ((backTo pos (starEach [] X.env)).any (·.1) || (backToKw pos (keywordEach kws X.env)).any (·.1.isNone)) = false := by rfl) : GE X (.Call (.Name x p) [] kws pos) (n1 + c) (mCall sp m1) := by
  obtain ⟨f, fd, F, hm, hk, hb⟩ := C.ex
  refine ⟨fun pins s σ H Q I h => wpAny_Call_Name_kw (ld_glob I hg hm (PySem.W.callWith_KW0 (h₀ := X.base) I.ok.mod.kin hk hall ?_ hpl) hdb)⟩
  have h1 : tCall (spD X.K c sp) [] E0 (tA X.K n1 m1) σ H Q := call_ok h
  refine thn (hkw.run pos pins s σ H _ I h1) fun us s1 ⟨vs, H1, I1, rv, q⟩ => ⟨I1.kIn, ?_⟩
  rw [hks]
  replace q : spD X.K c sp (vs ++ []) H1 Q E0 := q
  rw [List.append_nil] at q
  have n : us.length = ps.length := rv.length.symm.trans (F.len _ _ _ _ q)
  have run := F.run X.A X.stack s1 H1 ⟨[], ps.zip us⟩ us vs Q E0 r I1.env0 (hb s1 us n) rv q
  refine wpAny_call (codeAny_mono run fun res s' z => ?_)
  rcases res with err | fl
  · exact z.elim
  · cases fl with
    | ret u => exact I1.after z
    | next => exact z.elim
    | brk => exact z.elim
    | cont => exact z.elim
end
end DL
namespace DL
open PySem PySem.Spec PyProof.Rows L2
/-! ### list(text), {} -/
def strV (z : Str) : List V := z.cps.toList.map fun c => .str ⟨#[c]⟩
theorem dr_signs {K : PySem.W.Frag} {G : Hp} (z : Str) : DrAll K G (strV z) (strD z) := by
  unfold strV strD
  induction z.cps.toList with
  | nil => exact .nil
  | cons c r ih => exact .cons (.str _) ih
def dListS : List D → (D → Prop) → Prop
  | [.str z], P => z.cps.size ≤ sizeLine ∧ P (.list (strD z))
  | _, _ => False
section
variable {X : Cx}
theorem cd_listS (hc : X.calm = true) : CallR X (.type "list") (rDC X.K dListS) := by
  intro pins s σ H xs us Q I r h
  obtain ⟨G, ds, P, sG, da, hf, q⟩ := h
  unfold dListS at hf
  split at hf
  · rename_i z
    obtain ⟨v, rfl, d⟩ := all1 da
    cases dp_str d
    obtain ⟨u, rfl, ru⟩ := vals1 r
    obtain ⟨t, rfl⟩ := ru
    refine call_list_str (I.ok.hd hc) z t (fun h' tk acc cc hk hS hacc => ?_) hf.1
    have hn : H s.heap.objs.size = none := I.hok.fresh (Nat.le_refl _)
    have hlen : (strV z).length = acc.toList.length := by
      rw [strV, List.length_map, Array.length_toList, Array.length_toList, hacc.1]
    have rel : Vals (strV z) acc.toList := vals_of_at hlen fun j x u h1 h2 => by
      have e2 : acc[j]? = some u := by rw [← h2, Array.getElem?_toList]
      obtain ⟨cd, tk2, e3, e4⟩ := hacc.2 j u e2
      rw [strV, List.getElem?_map, Array.getElem?_toList, e3] at h1
      cases h1
      exact ⟨tk2, e4⟩
    refine ⟨.ref s.heap.objs.size, upd H s.heap.objs.size (.lst (strV z)), I.laid hk (Nat.le_refl _) (show ObjOk X.prog X.w _ _ _ (.lst (strV z)) from ⟨?_, acc.toList, cc, rel, ?_⟩), rfl, ?_⟩
    · rw [strV, List.length_map, Array.length_toList]
      exact hf.1
    · rw [Array.toArray_toList]
      exact hS
    · exact q _ _ _ _ hf.2 (Grow.new1 sG hn) (.lst upd_same (dr_signs z))
  · exact hf.elim
theorem ge_dict0 {pos : Pos} : GE X (.Dict [] [] pos) 0 (mC (.dict [])) := pe_imp pe_dnewK fun σ H Q h => by
  obtain ⟨W, B, G0, H0, G, env, P, R, hm, q⟩ := h
  intro p hp
  have g := Grow.new1 (o := .dK []) R.pub hp
  exact q _ env _ _ _ hm g.eg (R.grow g) (.dic upd_same .nil)
/-! ### constants of the module -/
structure GlobD (K : PySem.W.Frag) (mg : Str → Option Value) (x : Str) (y : D) : Prop where
  ex : ∃ v u, mg x = some u ∧ RelV v u ∧ ∀ G, Dr K G v y
theorem ge_gl {x : Str} {y : D} {pos : Pos} (h : GlobD X.K X.mg x y) (hg : Gl X x) (hdb : (x == ("__debug__" : Str)) = false := by decide) : GE X (.Name x pos) 0 (mC y) := by
  obtain ⟨v, u, h1, h2, h3⟩ := h.ex
  exact ge_glob hg h1 h2 h3 hdb
end
end DL
namespace DL
open PySem PySem.Spec PyProof.Rows L2
/-! ### several targets -/
def sAsg (m : ME) (g : MG) : MS := fun E env => m env fun x e1 => g x e1 E.nx
def sPar (i j : Nat) (a : MA) : MS := fun E env => a env fun as e1 => match as with
  | [.d x, .d y] => E.nx ((e1.set i (.d x)).set j (.d y))
  | _ => False
section
variable {X : Cx} {tg e a b : Expr} {me : ME} {mg : MG} {ne n1 : Nat} {vs : List Nat} {pos : Pos} {m1 : MA}
theorem gs_asg (he : GE X e ne me) (hg : GG X tg vs mg) (hs : swapsWithSole [tg] e pos.line X.env = pure false := by rfl) (hw : swappedStores [tg] e X.env = pure none := by rfl) (h1 : (assignEach [tg] X.env).map (·.2) = [assign tg X.env] := by rfl) : GS X (.Assign [tg] e pos) ne (sAsg me mg) := ps_imp (ps_asg he hg hs hw h1) fun D σ H h => by
  obtain ⟨W, B, G0, H0, G, env, E, R, hm, q⟩ := h
  refine ⟨W, B, G0, H0, G, env, _, R, hm, fun x e1 v G1 H1 p1 s1 R1 d1 => ⟨W, B, G0, H0, G1, e1, x, _, R1, d1, p1, fun e2 σ2 G2 H2 p2 s2 R2 _ _ => ?_⟩⟩
  exact q.nx _ _ _ _ p2 (s1.trans s2) R2
theorem gs_par {i j : Nat} {x y : Str} {px py pt pt2 : Pos} {kt k2 : Nat} (hc : X.calm = true) (hN : X.N.Nodup) (hi : X.N[i]? = some x) (hj : X.N[j]? = some y) (hij : i ≠ j) (hx : X.env.scope.names.lookup x = some .local) (hy : X.env.scope.names.lookup y = some .local)
    (ha : GA X [a, b] n1 m1) (hw : swappedStores [.Tuple [.Name x px, .Name y py] kt pt] (.Tuple [a, b] k2 pt2) X.env = pure (some [x, y]))
    (hs : swapsWithSole [.Tuple [.Name x px, .Name y py] kt pt] (.Tuple [a, b] k2 pt2) pos.line X.env = pure false := by rfl) : GS X (.Assign [.Tuple [.Name x px, .Name y py] kt pt] (.Tuple [a, b] k2 pt2) pos) n1 (sPar i j m1) := ps_imp (ps_par hc hN hi hj hij hx hy ha hw hs) fun D σ H h => by
  obtain ⟨W, B, G0, H0, G, env, E, R, hm, q⟩ := h
  refine ⟨W, B, G0, H0, G, env, _, R, hm, fun as e1 us G1 H1 p1 s1 R1 a1 => ?_⟩
  split at p1
  · cases a1 with
    | cons x1 y1 =>
      cases y1 with
      | cons y1 z1 =>
        cases z1
        exact ⟨_, _, rfl, q.nx _ _ _ _ p1 s1 ((R1.set_d x1).set_d y1)⟩
  · exact p1.elim
end
end DL
namespace DL
open PySem PySem.Spec PyProof.Rows L2
/-! ### loops on data -/
/-- one turn of a comprehension: what it puts in (none: left out) -/
def lcStep (g : MG) (tt : MT) (te : ME) (vs : List Nat) (env : DEnv) (x : D) (k : Option D → Prop) : Prop := g x (wipeE env vs) fun e1 => tt e1 fun b e2 => e2 = e1 ∧ match b with
  | true => te e2 fun y e3 => e3 = e2 ∧ k (some y)
  | false => k none
section
variable {g : MG} {tt : MT} {te : ME} {vs : List Nat} {env : DEnv}
theorem lcl_cons {x : D} {xs acc : List D} {P : List D → Prop} (h : lcStep g tt te vs env x fun o => match o with
    | some y => acc.length < sizeLine ∧ mLcL g tt te vs xs (acc ++ [y]) env P
    | none => mLcL g tt te vs xs acc env P) : mLcL g tt te vs (x :: xs) acc env P := h
/-- each turn's item is a function's -/
theorem lcl_fun (f : D → Option D) : ∀ (xs acc : List D) {P : List D → Prop}, (∀ x ∈ xs, ∀ k : Option D → Prop, k (f x) → lcStep g tt te vs env x k) → acc.length + xs.length ≤ sizeLine → P (acc ++ xs.filterMap f) → mLcL g tt te vs xs acc env P
  | [], acc, P, _, _, hP => by
    rw [List.filterMap_nil, List.append_nil] at hP
    exact hP
  | x :: xs, acc, P, hx, hl, hP => by
    rw [List.length_cons] at hl
    refine lcl_cons (hx x List.mem_cons_self _ ?_)
    cases e : f x with
    | some y =>
      refine ⟨by omega, lcl_fun f xs (acc ++ [y]) (fun z hz => hx z (List.mem_cons_of_mem _ hz)) (by rw [List.length_append]; simp; omega) ?_⟩
      rw [List.filterMap_cons, e] at hP
      rw [List.append_assoc]
      exact hP
    | none =>
      refine lcl_fun f xs acc (fun z hz => hx z (List.mem_cons_of_mem _ hz)) (by omega) ?_
      rw [List.filterMap_cons, e] at hP
      exact hP
/-- each turn's item is any of some -/
theorem lcl_any (A : D → Prop) : ∀ (xs acc : List D) {P : List D → Prop}, (∀ x ∈ xs, ∀ k : Option D → Prop, (∀ y, A y → k (some y)) → lcStep g tt te vs env x k) → acc.length + xs.length ≤ sizeLine →
    (∀ ys, ys.length = xs.length → (∀ y ∈ ys, A y) → P (acc ++ ys)) → mLcL g tt te vs xs acc env P
  | [], acc, P, _, _, hP => by
    have := hP [] rfl (fun y hy => by cases hy)
    rw [List.append_nil] at this
    exact this
  | x :: xs, acc, P, hx, hl, hP => by
    rw [List.length_cons] at hl
    refine lcl_cons (hx x List.mem_cons_self _ fun y hy => ⟨by omega, ?_⟩)
    refine lcl_any A xs (acc ++ [y]) (fun z hz => hx z (List.mem_cons_of_mem _ hz)) (by rw [List.length_append]; simp; omega) fun ys h1 h2 => ?_
    rw [List.append_assoc]
    refine hP (y :: ys) (by rw [List.length_cons, List.length_cons, h1]) fun z hz => ?_
    rcases List.mem_cons.mp hz with rfl | hz
    · exact hy
    · exact h2 z hz
end
/-- a for by an invariant -/
theorem forl_inv {g : MG} {b : MS} {xs : List D} {E : DEnds} {env : DEnv} (I : Nat → DEnv → Prop) (h0 : I 0 env)
    (hs : ∀ (i : Nat) x env (E' : DEnds), xs[i]? = some x → I i env → (∀ e, I (i + 1) e → E'.nx e) → (∀ e, I (i + 1) e → E'.ct e) → (∀ e, E.nx e → E'.bk e) → E'.rt = E.rt → g x env fun e1 => b E' e1) (hd : ∀ e, I xs.length e → E.nx e) : sForL g b xs E env := by
  have key : ∀ (ys : List D) (k : Nat) (env : DEnv), xs.drop k = ys → k + ys.length = xs.length → I k env → sForL g b ys E env := by
    intro ys
    induction ys with
    | nil =>
      intro k env _ hl hI
      have e : k = xs.length := by simpa using hl
      subst e
      exact hd env hI
    | cons y r ih =>
      intro k env hk hl hI
      have hx : xs[k]? = some y := by
        have := congrArg (fun l => l[0]?) hk
        simpa using this
      have hr : xs.drop (k + 1) = r := by
        have := congrArg (fun l => l.drop 1) hk
        simpa using this
      rw [List.length_cons] at hl
      exact hs k y env { nx := sForL g b r E, rt := E.rt, bk := E.nx, ct := sForL g b r E } hx hI (fun e z => ih (k + 1) e hr (by omega) z) (fun e z => ih (k + 1) e hr (by omega) z) (fun e z => z) rfl
  exact key xs 0 env rfl (by simp) h0
theorem strD_len (z : Str) : (strD z).length = z.length := by
  rw [strD, List.length_map, Array.length_toList]
  rfl
theorem atI_lt {α : Type} {xs : List α} {i : Int} (h0 : 0 ≤ i) (h1 : i < xs.length) : ∃ x, atI xs i = some x ∧ x ∈ xs ∧ xs[i.toNat]? = some x := by
  have hl : i.toNat < xs.length := by omega
  refine ⟨xs[i.toNat], ?_, List.getElem_mem hl, List.getElem?_eq_getElem hl⟩
  unfold atI ixN
  rw [if_pos h0, if_pos h1]
  exact List.getElem?_eq_getElem hl
end DL
namespace DL
open PySem PySem.Spec PyProof.Rows L2
/-! ### a star among the targets -/
/-- i targets, the star, the others -/
def starred (i n : Nat) (xs : List V) (p : Addr) : List V := xs.take i ++ [.ref p] ++ (xs.drop i).drop (xs.length + 1 - n)
def starMid (i n : Nat) (xs : List V) : List V := (xs.drop i).take (xs.length + 1 - n)
def gStar (Sq : Hp → Addr → List V → Prop) (i n : Nat) (t : TGs) : TG := fun v σ H Q => ∃ a xs, v = .ref a ∧ Sq H a xs ∧ i < n ∧ n ≤ xs.length + 1 ∧ xs.length ≤ 16384 ∧ ∀ p, H p = none → t (starred i n xs p) σ (upd H p (.lst (starMid i n xs))) Q
theorem vals_take : ∀ (n : Nat) {xs : List V} {us : List Value}, Vals xs us → Vals (xs.take n) (us.take n)
  | 0, _, _, _ => .nil
  | _ + 1, _, _, .nil => .nil
  | n + 1, _, _, .cons r rr => .cons r (vals_take n rr)
theorem vals_drop : ∀ (n : Nat) {xs : List V} {us : List Value}, Vals xs us → Vals (xs.drop n) (us.drop n)
  | 0, _, _, r => r
  | _ + 1, _, _, .nil => .nil
  | n + 1, _, _, .cons _ rr => vals_drop n rr
section
variable {X : Cx} {es : List Expr} {pos : Pos} {kk n i : Nat} {t : TGs}
theorem pg_starL (hc : X.calm = true) (h : PGs X es t) (hn : (assignEach es X.env).length = n := by rfl) (hst : (assignEach es X.env).findIdx? (·.1) = some i := by rfl) :
    PG X (.Tuple es kk pos) (gStar (SqL X.K) i n t) := by
  refine ⟨fun pins s σ H v u Q I r hw => ?_⟩
  obtain ⟨a, xs, e1, hq, h1, h2, h3, hw⟩ := hw
  subst e1
  cases r
  obtain ⟨its, rv, p0, hz⟩ := I.list hq
  have hL : s.heap.IsList a its.toArray := p0.isList
  have hlen := rv.length
  have lt1 : a < s.heap.objs.size := by
    obtain ⟨o, ho, _⟩ := hL
    exact Heap.lt_size ho
  have hne : a ≠ s.heap.objs.size := Nat.ne_of_lt lt1
  rw [assign_Tuple]
  refine wpAny_bind (wpAny_standAt ?_)
  unfold unpack
  rw [hn, hst]
  refine wpAny_bind (wpAny_holding ?_)
  unfold unpackItems
  refine wpAny_bind ?_
  unfold notIterableAtAll
  refine wpAny_bind (wpAny_specialOf hL.typeIs PySem.F.slot_list_iter.lookup (wpAny_pure ?_))
  rw [if_neg (by decide)]
  refine wpAny_bind (wpAny_holding (wpAny_pyIter_list hL ?_))
  refine wpAny_bind (wpAny_holding (PySem.W.kun_draw hne i 0 _ _ ⟨_, Heap.get?_push_size _ rfl, rfl, rfl⟩ (hL.push _) (by rw [List.size_toArray]; omega) fun hp1 hit1 hs1 => ?_))
  have hL1 : hp1.IsList a its.toArray := (hL.push _).extBut hs1.extBut hne
  rw [Nat.zero_add] at hit1
  have b1 : s.heap.objs.size < hp1.objs.size := by
    obtain ⟨o, ho, _⟩ := hit1
    exact Heap.lt_size ho
  have b2 : a < hp1.objs.size := by
    obtain ⟨o, ho, _⟩ := hL1
    exact Heap.lt_size ho
  have tl : ((List.drop 0 its.toArray.toList).take i).length = i := by
    rw [List.drop_zero, List.length_take]
    show min i its.length = i
    omega
  rw [if_neg (by rw [tl]; omega)]
  refine wpAny_bind (wpAny_holding (PySem.W.kun_collect (s := { s with heap := hp1 }) (T := "list_iterator") (.inr (.inr (.inl rfl))) (Walks.list (A := X.A.in1) (I.ok.hd hc) s.heap.objs.size a hne its.toArray) (fun j u st => st.1.typeIs) (k := i) (by rw [List.size_toArray]; omega) ⟨hit1, hL1⟩ b1 b2 (fun hp2 tk hk => ?_) (by rw [List.size_toArray, ← hlen]; exact hz)))
  have dl : (its.toArray.toList.drop i).length = its.length - i := by
    rw [List.length_drop]
  have dm : (its.toArray.toList.drop i).length - (n - 1 - i) = xs.length + 1 - n := by
    rw [dl, hlen]
    omega
  rw [if_neg (by rw [dl]; omega), dm]
  have ke : ∀ b o, s.heap.get? b = some o → hp2.get? b = some o := fun b o e => by
    have nb : b ≠ s.heap.objs.size := Nat.ne_of_lt (Heap.lt_size e)
    exact hk b o nb (hs1.extBut b o nb (Heap.get?_push_of_some _ e))
  have I2 : Inv X pins σ H { s with heap := hp2, toks := tk } := I.kept (t' := tk) ke
  have rm : Vals (starMid i n xs) ((its.toArray.toList.drop i).take (xs.length + 1 - n)) := vals_take _ (vals_drop i rv)
  have zl : (starMid i n xs).length ≤ sizeLine := by
    unfold starMid
    rw [List.length_take, List.length_drop]
    omega
  refine wpAny_bind (wpAny_newList ?_ (by rw [← rm.length]; exact zl))
  have hfr : H hp2.objs.size = none := I2.hok.fresh (Nat.le_refl _)
  refine wpAny_pure ?_
  have I3 : Inv X pins σ (upd H hp2.objs.size (.lst (starMid i n xs))) { s with heap := hp2.push { cls := .type "list", data := .seq ((its.toArray.toList.drop i).take (xs.length + 1 - n)).toArray }, toks := tk } :=
    I2.laid (t' := tk) (fun b u e => Heap.get?_push_of_some _ e) (Nat.le_refl _) ⟨zl, _, 0, rm, Heap.get?_push_size _ rfl⟩
  exact h.run pins _ σ _ _ _ Q I3 (((vals_take i rv).append (.cons (show RelV (.ref hp2.objs.size) (.ref hp2.objs.size) from rfl) .nil)).append (vals_drop _ (vals_drop i rv))) (hw _ hfr)
theorem pg_starT (hc : X.calm = true) (h : PGs X es t) (hn : (assignEach es X.env).length = n := by rfl) (hst : (assignEach es X.env).findIdx? (·.1) = some i := by rfl) :
    PG X (.Tuple es kk pos) (gStar (SqT X.K) i n t) := by
  refine ⟨fun pins s σ H v u Q I r hw => ?_⟩
  obtain ⟨a, xs, e1, hq, h1, h2, h3, hw⟩ := hw
  subst e1
  cases r
  obtain ⟨its, rv, p0, hz⟩ := I.tuple hq
  have hL : IsTup s.heap a its.toArray := p0
  have hlen := rv.length
  have lt1 : a < s.heap.objs.size := by
    obtain ⟨o, ho, _⟩ := hL
    exact Heap.lt_size ho
  have hne : a ≠ s.heap.objs.size := Nat.ne_of_lt lt1
  rw [assign_Tuple]
  refine wpAny_bind (wpAny_standAt ?_)
  unfold unpack
  rw [hn, hst]
  refine wpAny_bind (wpAny_holding ?_)
  unfold unpackItems
  refine wpAny_bind ?_
  unfold notIterableAtAll
  refine wpAny_bind (wpAny_specialOf hL.typeIs PySem.F.slot_tuple_iter.lookup (wpAny_pure ?_))
  rw [if_neg (by decide)]
  refine wpAny_bind (wpAny_holding (iter_tuple hL ?_))
  refine wpAny_bind (wpAny_holding (draw_tuple hne i 0 _ _ ⟨_, Heap.get?_push_size _ rfl, rfl, rfl⟩ (hL.push _) (by rw [List.size_toArray]; omega) fun hp1 hit1 hs1 => ?_))
  have hL1 : IsTup hp1 a its.toArray := (hL.push _).extBut hs1.extBut hne
  rw [Nat.zero_add] at hit1
  have b1 : s.heap.objs.size < hp1.objs.size := by
    obtain ⟨o, ho, _⟩ := hit1
    exact Heap.lt_size ho
  have b2 : a < hp1.objs.size := by
    obtain ⟨o, ho, _⟩ := hL1
    exact Heap.lt_size ho
  have tl : ((List.drop 0 its.toArray.toList).take i).length = i := by
    rw [List.drop_zero, List.length_take]
    show min i its.length = i
    omega
  rw [if_neg (by rw [tl]; omega)]
  refine wpAny_bind (wpAny_holding (PySem.W.kun_collect (s := { s with heap := hp1 }) (T := "tuple_iterator") (.inr (.inr (.inr rfl))) (Walks.tuple (A := X.A.in1) (I.ok.hd hc) s.heap.objs.size a hne its.toArray) (fun j u st => st.1.typeIs) (k := i) (by rw [List.size_toArray]; omega) ⟨hit1, hL1⟩ b1 b2 (fun hp2 tk hk => ?_) (by rw [List.size_toArray, ← hlen]; exact hz)))
  have dl : (its.toArray.toList.drop i).length = its.length - i := by
    rw [List.length_drop]
  have dm : (its.toArray.toList.drop i).length - (n - 1 - i) = xs.length + 1 - n := by
    rw [dl, hlen]
    omega
  rw [if_neg (by rw [dl]; omega), dm]
  have ke : ∀ b o, s.heap.get? b = some o → hp2.get? b = some o := fun b o e => by
    have nb : b ≠ s.heap.objs.size := Nat.ne_of_lt (Heap.lt_size e)
    exact hk b o nb (hs1.extBut b o nb (Heap.get?_push_of_some _ e))
  have I2 : Inv X pins σ H { s with heap := hp2, toks := tk } := I.kept (t' := tk) ke
  have rm : Vals (starMid i n xs) ((its.toArray.toList.drop i).take (xs.length + 1 - n)) := vals_take _ (vals_drop i rv)
  have zl : (starMid i n xs).length ≤ sizeLine := by
    unfold starMid
    rw [List.length_take, List.length_drop]
    omega
  refine wpAny_bind (wpAny_newList ?_ (by rw [← rm.length]; exact zl))
  have hfr : H hp2.objs.size = none := I2.hok.fresh (Nat.le_refl _)
  refine wpAny_pure ?_
  have I3 : Inv X pins σ (upd H hp2.objs.size (.lst (starMid i n xs))) { s with heap := hp2.push { cls := .type "list", data := .seq ((its.toArray.toList.drop i).take (xs.length + 1 - n)).toArray }, toks := tk } :=
    I2.laid (t' := tk) (fun b u e => Heap.get?_push_of_some _ e) (Nat.le_refl _) ⟨zl, _, 0, rm, Heap.get?_push_size _ rfl⟩
  exact h.run pins _ σ _ _ _ Q I3 (((vals_take i rv).append (.cons (show RelV (.ref hp2.objs.size) (.ref hp2.objs.size) from rfl) .nil)).append (vals_drop _ (vals_drop i rv))) (hw _ hfr)
end
end DL
namespace DL
open PySem PySem.Spec PyProof.Rows L2
/-! ### repr and str of any data -/
def dReprA : List D → (D → Prop) → Prop
  | [x], P => (x.showable = true ∧ noDict x = true) ∧ x.depth ≤ 60 ∧ x.shown.length ≤ sizeLine ∧ P (.str x.shown)
  | _, _ => False
def dStrA : List D → (D → Prop) → Prop
  | [.int i], P => i.natAbs.log2 < 1920 ∧ P (.str (toString i))
  | [.str z], P => P (.str z)
  | [.none], P => P (.str "None")
  | _, _ => False
section
variable {X : Cx}
theorem cd_reprA (hg : X.A.guards = some []) (hu : X.A.units + 64 < cLine) : CallR X (.builtin "repr") (rDC X.K dReprA) := by
  intro pins s σ H xs us Q I r h
  obtain ⟨G, ds, P, sG, da, hf, q⟩ := h
  unfold dReprA at hf
  split at hf
  · rename_i x _
    obtain ⟨v, rfl, d⟩ := all1 da
    obtain ⟨⟨h1, h2⟩, h3, h4, hP⟩ := hf
    have d2 := dr_dp (dp_same sG d) h2
    have q' := q _ _ G H hP (Grow.refl sG) (.str _)
    cases d with
    | int i =>
      obtain ⟨u, rfl, t, rfl⟩ := vals1 r
      exact PySem.P.repr_of_int (by simpa [PyData.showable] using h1) ⟨.str _, H, I.tok _, ⟨_, rfl⟩, q'⟩
    | str z =>
      obtain ⟨u, rfl, t, rfl⟩ := vals1 r
      exact PySem.P.repr_of_str ⟨.str _, H, I.tok _, ⟨_, rfl⟩, q'⟩ h4
    | bl b =>
      obtain ⟨u, rfl, r1⟩ := vals1 r
      cases r1
      exact PySem.P.repr_of_bool ⟨.str _, H, I.tok _, ⟨_, rfl⟩, q'⟩
    | non =>
      obtain ⟨u, rfl, r1⟩ := vals1 r
      cases r1
      exact PySem.P.repr_of_none ⟨.str _, H, I.tok _, ⟨_, rfl⟩, q'⟩
    | lst a b => exact repr_ref hg hu I r d2 h1 h2 h3 h4 q'
    | tup a b => exact repr_ref hg hu I r d2 h1 h2 h3 h4 q'
    | dic a b => simp [noDict] at h2
  · exact hf.elim
theorem cd_strA : CallR X (.type "str") (rDC X.K dStrA) := by
  intro pins s σ H xs us Q I r h
  obtain ⟨G, ds, P, sG, da, hf, q⟩ := h
  unfold dStrA at hf
  split at hf
  · obtain ⟨v, rfl, d⟩ := all1 da
    cases dp_int d
    exact call_str_int pins s σ H _ us Q I r ⟨_, rfl, hf.1, q _ _ G H hf.2 (Grow.refl sG) (.str _)⟩
  · obtain ⟨v, rfl, d⟩ := all1 da
    cases dp_str d
    obtain ⟨u, rfl, t, rfl⟩ := vals1 r
    exact PySem.P.str_of_str ⟨.str _, H, I, ⟨_, rfl⟩, q _ _ G H hf (Grow.refl sG) (.str _)⟩
  · obtain ⟨v, rfl, d⟩ := all1 da
    cases dp_non d
    obtain ⟨u, rfl, r1⟩ := vals1 r
    cases r1
    exact PySem.P.str_of_none ⟨.str _, H, I.tok _, ⟨_, rfl⟩, q _ _ G H hf (Grow.refl sG) (.str _)⟩
  · exact hf.elim
end
/-! ### found.extend(..) -/
def sExt (i : Nat) (m : ME) : MS := fun E env => (∃ xs, env[i]? = some (.own xs)) ∧ m env fun x e1 => match e1[i]?, x with
  | some (.mo none (.lst xs)), .list ys => xs.length + ys.length ≤ sizeLine ∧ E.nx (e1.set i (.own (xs ++ ys)))
  | _, _ => False
section
variable {X : Cx} {e : Expr} {me : ME} {ne : Nat} {pos : Pos}
theorem gs_extend {i : Nat} {x : Str} {px apos cpos : Pos} (hN : X.N[i]? = some x) (hv : Vis X.env.scope x) (he : GE X e ne me) (hd : (x == ("__debug__" : Str)) = false := by decide)
    (hcd : (x == ("__classdict__" : Str)) = false := by decide) (hbase : attributeBase (.Name x px) "extend" X.env (eval (.Name x px) X.env) = eval (.Name x px) X.env := by rfl)
    (hfew : ((backTo cpos (starEach [e] X.env)).all (fun x => !x.1) && (backToKw cpos (keywordEach [] X.env)).all (fun x => x.1.isSome) && decide ([e].length + ([] : List Keyword).length + (if ([] : List Keyword).isEmpty then 0 else 1) < 30)) = true := by rfl)
    (hline : (apos.endLine == cpos.line) = true := by rfl) (hs : starEach [e] X.env = (false, eval e X.env) :: starEach [] X.env := by rfl) (hplain : (backTo cpos (starEach ([] : List Expr) X.env)).any (·.1) = false := by rfl)
    (hsw : swapsWith (.Call (.Attribute (.Name x px) "extend" apos) [e] [] cpos) none pos.line X.env = pure false := by rfl) :
    GS X (.Expr (.Call (.Attribute (.Name x px) "extend" apos) [e] [] cpos) pos) ne (sExt i me) :=
  ps_imp (ps_expr (pe_bm PySem.F.plainAttrs_list PySem.F.slot_list_extend PySem.F.type_list_extend mt_extend (pe_var hN hv hd hcd) (pa_cons he pa_nil hs) hbase hfew hline hs hplain) hsw) fun D σ H h => by
  obtain ⟨W, B, G0, H0, G, env, E, R, ⟨⟨xs, hx⟩, hm⟩, q⟩ := h
  obtain ⟨l, vs, e1, hl, hg, h0, hmu, hq⟩ := R.get_own hx
  refine ⟨_, e1, .inl ⟨rfl, vs, SqL.of hl⟩, W, B, G0, H0, G, env, _, R, hm, fun y e2 v G2 H2 p2 s2 R2 d2 => ?_⟩
  split at p2
  · rename_i zs ys hy
    obtain ⟨l2, us, f1, hl2, hg2, h02, hmu2, hq2⟩ := R2.get_own hy
    rw [e1] at f1
    cases f1
    obtain ⟨b, ws, rfl, hb, hqb⟩ := dp_lst d2
    refine ⟨l, b, us, ws, rfl, rfl, hl2, R2.pub _ _ hb, by rw [dpAll_len hq2, dpAll_len hqb]; exact p2.1, ?_⟩
    exact q.nx _ _ _ _ p2.2 s2 (R2.write hy e1 hl2 hg2 h02 hmu2 (dpAll_app hq2 hqb))
  · exact p2.elim
end
/-! ### enumerate -/
def pairs (ds : List D) : List D := ds.mapIdx fun i x => .tuple [.int (i : Int), x]
theorem itd_enum {K : PySem.W.Frag} {G : Hp} {a : Addr} {us : List V} {ds : List D} (h1 : G a = some (.lst us)) (h2 : DrAll K G us ds) : ItD K G (Ite K a) (pairs ds) := fun G1 H1 s1 s2 i => by
  have q : SqL K H1 a us := SqL.of ((s1.trans s2) _ _ h1)
  refine ⟨fun x hx => ?_, fun hl => ?_⟩
  · unfold pairs at hx
    rw [List.getElem?_mapIdx, Option.map_eq_some_iff] at hx
    obtain ⟨y, hy, rfl⟩ := hx
    obtain ⟨v, e, d⟩ := dpAll_get h2 hy
    refine ⟨⟨us, v, q, e⟩, fun w H2 z => ?_⟩
    obtain ⟨T, u, rfl, hT, rfl, z⟩ := z
    have := z us q
    rw [e] at this
    cases this
    exact ⟨_, Grow.new1 s2 hT, .tup (SqT.of upd_same) (.cons (.int _) (.cons (dp_same (s1.trans (same_upd (s2.free hT))) d) .nil))⟩
  · refine ⟨us, q, ?_⟩
    unfold pairs at hl
    rw [List.length_mapIdx] at hl
    rw [dpAll_len h2]
    exact hl
def miEnum (a : MA) : MI := fun env P => a env fun as e1 => match as with
  | [.d (.list xs)] => P (pairs xs) e1
  | _ => False
theorem gi_enum {X : Cx} {e : Expr} {m1 : MA} {n1 : Nat} {p pos tpos : Pos} {elts : List Expr} {kk : Nat} (hg : Gl X "enumerate") (hm : X.mg "enumerate" = none) (ha : GA X [e] n1 m1) (hs : starEach [e] X.env = [(false, eval e X.env)] := by rfl) :
    GI X (.Tuple elts kk tpos) (.Call (.Name "enumerate" p) [e] [] pos) n1 (miEnum m1) := pi_imp (pi_enum hg hm ha hs) fun σ H R h => by
  obtain ⟨W, B, G0, H0, G, env, P, Rl, hm1, q⟩ := h
  refine ⟨W, B, G0, H0, G, env, _, Rl, hm1, fun as e1 us G1 H1 p1 s1 R1 a1 => ?_⟩
  split at p1
  · cases a1 with
    | cons x1 y1 =>
      cases y1
      obtain ⟨a, ws, rfl, h1, h2⟩ := dp_lst x1
      exact ⟨a, ws, rfl, SqL.of (R1.pub _ _ h1), q _ _ _ _ _ p1 s1 R1 (itd_enum h1 h2)⟩
  · exact p1.elim
end DL
namespace DL
open PySem PySem.Spec PyProof.Rows L2
/-! ### a tuple times 0, times 1 -/
theorem tup_times0 (l : Addr) (items : Array Value) (n : Nat) (dd : Option Addr) (sl : Array (Option Value)) (u : Tok) (c1 : (items.isEmpty || (0 : Int) == 1) = false) :
    Meets (Builtin.«tuple.__mul__» ⟨[.ref l, .int 0 u], []⟩) (fun _ R s => s.heap.get? l = some ⟨.type "tuple", dd, .seq items n, sl⟩ ∧ R (.ok (.ret (.ref s.heap.objs.size))) { s with heap := s.heap.push { cls := .type "tuple", data := .seq #[] } }) :=
  .of_wp fun prog w A R s h => by
    obtain ⟨hp, g, d, tk, os⟩ := s
    obtain ⟨hl, h⟩ := h
    have f1 := AutoSeq1.idx_int
    wp_walk using wpAny_loadPart' hl
    repeat (first
      | (refine wpAny_ite_false (decide_eq_false (by decide)) ?_; wp_walk using wpAny_loadPart' hl)
      | (refine wpAny_ite_false (decide_eq_false (by rw [c1]; exact Bool.false_ne_true)) ?_; wp_walk using wpAny_loadPart' hl)
      | (refine wpAny_ite_true (decide_eq_true (by rfl)) ?_; wp_walk using wpAny_loadPart' hl))
    exact ⟨_, rfl, h⟩
theorem tup_times1 (l : Addr) (items : Array Value) (n : Nat) (dd : Option Addr) (sl : Array (Option Value)) (u : Tok) :
    Meets (Builtin.«tuple.__mul__» ⟨[.ref l, .int 1 u], []⟩) (fun _ R s => s.heap.get? l = some ⟨.type "tuple", dd, .seq items n, sl⟩ ∧ R (.ok (.ret (.ref l))) s) :=
  .of_wp fun prog w A R s h => by
    obtain ⟨hp, g, d, tk, os⟩ := s
    obtain ⟨hl, h⟩ := h
    have f1 := AutoSeq1.idx_int
    wp_walk using wpAny_loadPart' hl
    repeat (first
      | (refine wpAny_ite_false (decide_eq_false (by decide)) ?_; wp_walk using wpAny_loadPart' hl)
      | (refine wpAny_ite_true (decide_eq_true (by cases items.isEmpty <;> rfl)) ?_; wp_walk using wpAny_loadPart' hl))
    exact ⟨_, rfl, h⟩
def dMulT : D → D → (D → Prop) → Prop
  | .tuple xs, .int k, P => (xs ≠ [] ∧ xs.length ≤ 1000 ∧ 0 ≤ k ∧ k ≤ 1000) ∧ P (.tuple (List.replicate k.toNat xs).flatten)
  | _, _, _ => False
section
variable {X : Cx}
theorem od_mulT : OpR X (binaryOp .Mult) (rD2 X.K dMulT) := by
  intro pins s σ H x y v u Q I rx ry h
  obtain ⟨G, dx, dy, P, sG, d1, d2, hf, q⟩ := h
  unfold dMulT at hf
  split at hf
  · rename_i xs k
    obtain ⟨a, us, rfl, h1, h2⟩ := dp_tup d1
    cases dp_int d2
    obtain ⟨⟨hne, hz, k0, k1⟩, hP⟩ := hf
    have une : us ≠ [] := fun e => by
      subst e
      cases h2
      exact hne rfl
    have hT := same_sqT sG h1
    by_cases k2 : 2 ≤ k
    · refine op_repT pins s σ H _ _ v u Q I rx ry ⟨a, _, us, rfl, rfl, hT, une, k2, k1, by rw [dpAll_len h2]; exact hz, fun p hp => ?_⟩
      exact q _ _ _ _ hP (Grow.new1 sG hp) (.tup (SqT.of upd_same) (dpAll_same (same_upd (sG.free hp)) (dpAll_flat h2 _)))
    · cases rx
      obtain ⟨t, rfl⟩ := ry
      obtain ⟨its, r, ⟨⟨cls, dd, data, sl⟩, ho, hc, n, hd⟩, hs⟩ := I.tuple hT
      simp only at hc hd
      subst hc hd
      have hk : k = 0 ∨ k = 1 := by omega
      rcases hk with rfl | rfl
      · have c1 : (its.toArray.isEmpty || (0 : Int) == 1) = false := by
          cases its with
          | nil =>
            cases r
            exact absurd rfl une
          | cons _ _ => rfl
        refine wpAny_binaryOp_repeat_ref (T := "tuple") (U := "int") (by decide) ⟨_, ho, rfl⟩ (fun s' => typeIs_int s' 0 t) noFill_tuple_mul PySem.F.fills_int_mul PySem.F.slot_int_rmul repeat_tuple PySem.F.slot_int_index.lookup
          (call_meets PySem.F.slot_int_rmul (typeIs_int s 0 t) PySem.F.entry_int_rmul (PySem.F.args_int_rmul_2 _ _) (int_rmul_tuple 0 t a its.toArray n dd sl)
            ⟨ho, rfl, ⟨_, ho, rfl⟩, call_meets PySem.F.slot_tuple_mul ⟨_, ho, rfl⟩ PySem.F.entry_tuple_mul (PySem.F.args_tuple_mul_2 _ _) (tup_times0 a its.toArray n dd sl t c1) ⟨ho, ?_⟩⟩)
        have hf2 : H s.heap.objs.size = none := I.hok.fresh (Nat.le_refl _)
        refine ⟨.ref s.heap.objs.size, _, I.laid (t' := s.toks) (o := .tup []) (fun b ob q => Heap.get?_push_of_some _ q) (Nat.le_refl _) ?_, rfl, q _ _ _ _ hP (Grow.new1 sG hf2) (.tup (SqT.of upd_same) .nil)⟩
        exact ⟨by decide, _, .nil, IsTup.new _ _⟩
      · refine wpAny_binaryOp_repeat_ref (T := "tuple") (U := "int") (by decide) ⟨_, ho, rfl⟩ (fun s' => typeIs_int s' 1 t) noFill_tuple_mul PySem.F.fills_int_mul PySem.F.slot_int_rmul repeat_tuple PySem.F.slot_int_index.lookup
          (call_meets PySem.F.slot_int_rmul (typeIs_int s 1 t) PySem.F.entry_int_rmul (PySem.F.args_int_rmul_2 _ _) (int_rmul_tuple 1 t a its.toArray n dd sl)
            ⟨ho, rfl, ⟨_, ho, rfl⟩, call_meets PySem.F.slot_tuple_mul ⟨_, ho, rfl⟩ PySem.F.entry_tuple_mul (PySem.F.args_tuple_mul_2 _ _) (tup_times1 a its.toArray n dd sl t) ⟨ho, ?_⟩⟩)
        refine ⟨.ref a, H, I, rfl, q _ _ G H hP (Grow.refl sG) ?_⟩
        have e : (List.replicate (1 : Int).toNat xs).flatten = xs := by
          show (List.replicate 1 xs).flatten = xs
          simp
        rw [e]
        exact d1
  · exact hf.elim
end
/-! ### a sum of lists that is one's own -/
def mAddF (ma mb : ME) : MF := fun env P => ma env fun x e1 => mb e1 fun y e2 => match x, y with
  | .list a, .list b => a.length + b.length ≤ sizeLine ∧ P (a ++ b) e2
  | _, _ => False
section
variable {X : Cx} {a b : Expr} {na nb : Nat} {ma mb : ME} {pos : Pos}
theorem gf_add (ha : GE X a na ma) (hb : GE X b nb mb) : GF X (.BinOp a .Add b pos) (na + nb) (mAddF ma mb) := pe_imp (pe_op op_cat ha hb) fun σ H Q h => by
  obtain ⟨W, B, G0, H0, G, env, P, R, hm, q⟩ := h
  refine ⟨W, B + nb, G0, H0, G, env, _, R.le (by omega), hm, fun x e1 v G1 H1 p1 s1 R1 d1 => ?_⟩
  refine ⟨W, B, G0, H0, G1, e1, _, R1, p1, fun y e2 u G2 H2 p2 s2 R2 d2 => ?_⟩
  split at p2
  · obtain ⟨a1, us, rfl, h1, h2⟩ := dp_lst (dp_same s2 d1)
    obtain ⟨b1, ws, rfl, h3, h4⟩ := dp_lst d2
    refine ⟨a1, b1, us, ws, rfl, rfl, R2.pub _ _ h1, R2.pub _ _ h3, by rw [dpAll_len h2, dpAll_len h4]; exact p2.1, fun p hp => ?_⟩
    obtain ⟨R3, f1, f2, f3, f4⟩ := R2.fresh (o := .lst (us ++ ws)) hp
    exact q _ e2 _ _ _ p2.2 (s1.trans s2) R3 ⟨_, upd_same, f1, f2, f3, f4, dpAll_app h2 h4⟩
  · exact p2.elim
end
end DL
namespace DL
open PySem PySem.Spec PyProof.Rows L2
/-! ### a list of one's own lists, beside the slots -/
def NoOwn (env : DEnv) : Prop := ∀ (i : Nat) w c, env[i]? ≠ some (.mo w c)
section
variable {K : PySem.W.Frag} {W : Wd} {B : Nat} {G0 H0 G H G' H' : Hp} {env env' : DEnv} {σ σ' : L2.St}
theorem Rel.base (R : Rel K W B G0 H0 G env σ H) (no : NoOwn env) : Rel K W B G H G env σ H :=
  { R.toRW.self with
    len := R.len
    slot := fun i e s h1 h2 => by
      have q := R.slot i e s h1 h2
      cases e with
      | un => trivial
      | d x => exact q
      | mo w c => exact absurd h1 (no i w c)
      | «at» _ => trivial
      | hd => exact q
    dis := fun i j wi ci wj cj l ne h1 => absurd h1 (no i wi ci) }
theorem Rel.rebase (R : Rel K W B G H G' env σ H') (no : NoOwn env) (r : RW W B G0 H0 G' H') : Rel K W B G0 H0 G' env σ H' :=
  { r with
    len := R.len
    slot := fun i e s h1 h2 => by
      have q := R.slot i e s h1 h2
      cases e with
      | un => trivial
      | d x => exact q
      | mo w c => exact absurd h1 (no i w c)
      | «at» _ => trivial
      | hd => exact q
    dis := fun i j wi ci wj cj l ne h1 => absurd h1 (no i wi ci) }
/-- an object that is neither published nor the caller's is written -/
theorem Rel.poke {a : Addr} {o : HO} (R : Rel K W B G0 H0 G env σ H) (no : NoOwn env) (hg : G a = none) (h0 : H0 a = none) (hm : ¬ W.mu a) : Rel K W B G0 H0 G env σ (upd H a o) where
  g0 := R.g0
  pub := fun b u e => by
    have ne : b ≠ a := fun z => by
      subst z
      rw [hg] at e
      cases e
    rw [upd_ne ne]
    exact R.pub b u e
  gm := R.gm
  inv := W.loc _ H _ (fun b m => by
    have ne : b ≠ a := fun z => by
      subst z
      exact hm m
    rw [upd_ne ne]) R.inv
  fr := fun b u e m => by
    have ne : b ≠ a := fun z => by
      subst z
      rw [h0] at e
      cases e
    rw [upd_ne ne]
    exact R.fr b u e m
  pn := R.pn
  len := R.len
  slot := fun i e s h1 h2 => by
    have q := R.slot i e s h1 h2
    cases e with
    | un => trivial
    | d x => exact q
    | mo w c => exact absurd h1 (no i w c)
    | «at» _ => trivial
    | hd => exact q
  dis := fun i j wi ci wj cj l ne h1 => absurd h1 (no i wi ci)
theorem Rel.set_un {i : Nat} {s : Option V} (R : Rel K W B G0 H0 G env σ H) (no : NoOwn env) : Rel K W B G0 H0 G (env.set i .un) (σ.set i s) H :=
  { R.toRW with
    len := by rw [List.length_set, List.length_set]; exact R.len
    slot := fun j e t h1 h2 => by
      by_cases z : i = j
      · subst z
        by_cases hl : i < env.length
        · rw [List.getElem?_set_self hl] at h1
          cases h1
          trivial
        · rw [List.getElem?_eq_none (by rw [List.length_set]; omega)] at h1
          cases h1
      · rw [List.getElem?_set_ne z] at h1 h2
        exact R.slot j e t h1 h2
    dis := fun j k wi ci wj cj l ne h1 => by
      by_cases z : i = j
      · subst z
        by_cases hl : i < env.length
        · rw [List.getElem?_set_self hl] at h1
          cases h1
        · rw [List.getElem?_eq_none (by rw [List.length_set]; omega)] at h1
          cases h1
      · rw [List.getElem?_set_ne z] at h1
        exact absurd h1 (no j wi ci) }
/-- a list that is one's own -/
structure Own1 (K : PySem.W.Frag) (W : Wd) (H0 G H : Hp) (a : Addr) (xs : List D) : Prop where
  ex : ∃ vs, H a = some (.lst vs) ∧ DrAll K G vs xs
  g : G a = none
  h0 : H0 a = none
  mu : ¬ W.mu a
theorem Own1.keep {a : Addr} {xs : List D} (h : Own1 K W H0 G H a xs) (s : Same G G') (g : G' a = none) (e : H' a = H a) : Own1 K W H0 G' H' a xs := by
  obtain ⟨vs, h1, h2⟩ := h.ex
  exact ⟨⟨vs, e.trans h1, dpAll_same s h2⟩, g, h.h0, h.mu⟩
/-- the stack: a list at l of lists -/
structure Sx (K : PySem.W.Frag) (W : Wd) (B : Nat) (G0 H0 G H : Hp) (env : DEnv) (σ : L2.St) (l : Addr) (st : List (Addr × List D)) : Prop where
  rel : Rel K W B G0 H0 G env σ H
  no : NoOwn env
  hl : H l = some (.lst (st.map fun p => .ref p.1))
  gl : G l = none
  h0 : H0 l = none
  mu : ¬ W.mu l
  nd : (l :: st.map (·.1)).Nodup
  own : ∀ p ∈ st, Own1 K W H0 G H p.1 p.2
theorem Sx.via {l : Addr} {st : List (Addr × List D)} (S : Sx K W B G0 H0 G H env σ l st) (R : Rel K W B G H G' env' σ' H') (no : NoOwn env') : Sx K W B G0 H0 G' H' env' σ' l st := by
  have kg : ∀ a o, H a = some o → G a = none → G' a = none := fun a o h1 h2 => by
    cases z : G' a with
    | none => rfl
    | some u =>
      rw [R.pn a u z h2] at h1
      cases h1
  refine ⟨R.rebase no (S.rel.toRW.trans rfl (fun a m => .inl (.inr m)) R.toRW), no, R.fr _ _ S.hl S.mu, kg _ _ S.hl S.gl, S.h0, S.mu, S.nd, fun p hp => ?_⟩
  have o := S.own p hp
  obtain ⟨vs, h1, h2⟩ := o.ex
  exact o.keep R.g0 (kg _ _ h1 o.g) ((R.fr _ _ h1 o.mu).trans h1.symm)
theorem Sx.ne {l : Addr} {st : List (Addr × List D)} (S : Sx K W B G0 H0 G H env σ l st) {p : Addr × List D} (hp : p ∈ st) : p.1 ≠ l := fun z =>
  (List.nodup_cons.mp S.nd).1 (z ▸ List.mem_map_of_mem hp)
theorem Sx.push {l p : Addr} {st : List (Addr × List D)} (S : Sx K W B G0 H0 G H env σ l st) (hp : H p = none) : Sx K W B G0 H0 G (upd (upd H p (.lst [])) l (.lst (st.map (fun q => .ref q.1) ++ [.ref p]))) env σ l (st ++ [(p, [])]) := by
  obtain ⟨R, f1, f2, f3, _⟩ := S.rel.fresh (o := .lst []) hp
  have pl : p ≠ l := fun z => by
    subst z
    rw [S.hl] at hp
    cases hp
  have np : ∀ q ∈ st, q.1 ≠ p := fun q hq z => by
    obtain ⟨vs, h1, _⟩ := (S.own q hq).ex
    rw [z, hp] at h1
    cases h1
  refine ⟨R.poke S.no S.gl S.h0 S.mu, S.no, ?_, S.gl, S.h0, S.mu, ?_, fun q hq => ?_⟩
  · rw [upd_same, List.map_append]
    rfl
  · rw [List.map_append, ← List.cons_append]
    refine List.nodup_append.mpr ⟨S.nd, by simp, fun a ha b hb z => ?_⟩
    have hb : b = p := by simpa using hb
    subst hb
    subst z
    rcases List.mem_cons.mp ha with e | e
    · exact pl e
    · obtain ⟨q, hq, e⟩ := List.mem_map.mp e
      exact np q hq e
  · rcases List.mem_append.mp hq with hq | hq
    · have o := S.own q hq
      refine o.keep (Same.refl _) o.g ?_
      rw [upd_ne (S.ne hq), upd_ne (np q hq)]
    · have e : q = (p, []) := by simpa using hq
      subst e
      refine ⟨⟨[], ?_, .nil⟩, f1, f2, f3⟩
      show upd (upd H p (.lst [])) l _ p = _
      rw [upd_ne pl, upd_same]
theorem Sx.pop {l a : Addr} {xs : List D} {st : List (Addr × List D)} (S : Sx K W B G0 H0 G H env σ l (st ++ [(a, xs)])) : Sx K W B G0 H0 G (upd H l (.lst (st.map fun q => .ref q.1))) env σ l st ∧ Own1 K W H0 G (upd H l (.lst (st.map fun q => .ref q.1))) a xs := by
  have al : a ≠ l := S.ne (p := (a, xs)) (by simp)
  refine ⟨⟨S.rel.poke S.no S.gl S.h0 S.mu, S.no, upd_same, S.gl, S.h0, S.mu, ?_, fun q hq => ?_⟩, ?_⟩
  · have := S.nd
    rw [List.map_append, ← List.cons_append] at this
    exact (List.nodup_append.mp this).1
  · have o := S.own q (List.mem_append_left _ hq)
    exact o.keep (Same.refl _) o.g (upd_ne (S.ne (List.mem_append_left _ hq)))
  · have o := S.own (a, xs) (by simp)
    exact o.keep (Same.refl _) o.g (upd_ne al)
theorem Sx.put {l a : Addr} {v : V} {x : D} {xs : List D} {vs : List V} {st : List (Addr × List D)} (S : Sx K W B G0 H0 G H env σ l (st ++ [(a, xs)])) (hv : H a = some (.lst vs)) (hd : DrAll K G vs xs) (dv : Dr K G v x) :
    Sx K W B G0 H0 G (upd H a (.lst (vs ++ [v]))) env σ l (st ++ [(a, xs ++ [x])]) := by
  have al : a ≠ l := S.ne (p := (a, xs)) (by simp)
  have o := S.own (a, xs) (by simp)
  refine ⟨S.rel.poke S.no o.g o.h0 o.mu, S.no, ?_, S.gl, S.h0, S.mu, ?_, fun q hq => ?_⟩
  · rw [upd_ne (Ne.symm al), S.hl, List.map_append, List.map_append]
    rfl
  · have := S.nd
    rw [List.map_append] at this ⊢
    exact this
  · rcases List.mem_append.mp hq with hq | hq
    · have o := S.own q (List.mem_append_left _ hq)
      refine o.keep (Same.refl _) o.g (upd_ne fun z => ?_)
      have h := S.nd
      rw [List.map_append, ← List.cons_append] at h
      exact (List.nodup_append.mp h).2.2 q.1 (List.mem_cons_of_mem _ (List.mem_map_of_mem hq)) a (by simp) z
    · have e : q = (a, xs ++ [x]) := by simpa using hq
      subst e
      exact ⟨⟨_, upd_same, dpAll_app hd (dpAll_one dv)⟩, o.g, o.h0, o.mu⟩
theorem Sx.base {l : Addr} {st : List (Addr × List D)} (S : Sx K W B G0 H0 G H env σ l st) : Rel K W B G H G env σ H := S.rel.base S.no
theorem Sx.grow {l : Addr} {st : List (Addr × List D)} (S : Sx K W B G0 H0 G H env σ l st) (g : Grow G H G' H') : Sx K W B G0 H0 G' H' env σ l st := S.via (S.base.grow g) S.no
theorem Sx.set_un {l : Addr} {i : Nat} {s : Option V} {st : List (Addr × List D)} (S : Sx K W B G0 H0 G H env σ l st) (no : NoOwn (env.set i .un)) : Sx K W B G0 H0 G H (env.set i .un) (σ.set i s) l st := { S with rel := S.rel.set_un S.no, no := no }
end
/-! ### a star at the end of targets -/
theorem pgs_star {X : Cx} {e : Expr} {es : List Expr} {t : TG} {u : TGs} {pos : Pos} (h1 : PG X e t) (h2 : PGs X es u) (hs : (assignEach (.Starred e pos :: es) X.env).map (·.2) = assign e X.env :: (assignEach es X.env).map (·.2) := by rfl) : PGs X (.Starred e pos :: es) (gCons t u) := by
  refine ⟨fun pins s σ H vs us Q I r h => ?_⟩
  obtain ⟨v, vr, e1, h⟩ := h
  subst e1
  cases r with
  | cons r rr =>
    rw [hs]
    exact assignInOrder_cons (thn (h1.run pins s σ H _ _ _ I r h) fun _ s1 ⟨σ1, H1, I1, q1⟩ => h2.run pins s1 σ1 H1 _ _ Q I1 rr q1)
theorem at_last {α : Type} (l : List α) (x : α) : atI (l ++ [x]) (-1) = some x := by
  unfold atI ixN
  have e1 : ¬ ((0 : Int) ≤ -1) := by decide
  rw [if_neg e1]
  have e2 : -((l ++ [x]).length : Int) ≤ -1 := by
    rw [List.length_append, List.length_singleton]
    omega
  rw [if_pos e2]
  have e3 : (-1 + ((l ++ [x]).length : Int)).toNat = l.length := by
    rw [List.length_append, List.length_singleton]
    omega
  show (l ++ [x])[(-1 + ((l ++ [x]).length : Int)).toNat]? = some x
  rw [e3]
  simp
end DL
namespace DL
open PySem PySem.Spec PyProof.Rows L2
/-! ### max, divmod, abs -/
def noneFree (xs : List D) : Prop := ∀ x ∈ xs, x ≠ .none
def dMax : List D → (D → Prop) → Prop
  | [.list (x :: xs)], P => (PySem.W.AlikeAll (x :: xs) ∧ noDicts (x :: xs) = true ∧ PyData.depthAll (x :: xs) ≤ 60) ∧ P (PySem.W.maxD x xs)
  | [.int i, .int j], P => P (.int (if j > i then j else i))
  | _, _ => False
def dMin : List D → (D → Prop) → Prop
  | [.int i, .int j], P => P (.int (if j < i then j else i))
  | _, _ => False
def dAbs : List D → (D → Prop) → Prop
  | [.int i], P => P (.int (if i < 0 then -i else i))
  | _, _ => False
def dDivmod : List D → (D → Prop) → Prop
  | [.int i, .int j], P => CDiv i j ∧ P (.tuple [.int (i / j), .int (i % j)])
  | _, _ => False
section
variable {X : Cx}
theorem cd_max (hc : X.calm = true) (hu : X.A.units + 64 < cLine) : CallR X (.builtin "max") (rDC X.K dMax) := by
  intro pins s σ H xs us Q I r h
  obtain ⟨G, ds, P, sG, da, hf, q⟩ := h
  unfold dMax at hf
  split at hf
  · rename_i x ys
    obtain ⟨v, rfl, d⟩ := all1 da
    obtain ⟨a, ws, rfl, h1, h2⟩ := dp_lst d
    obtain ⟨⟨ha, hn, hd⟩, hP⟩ := hf
    obtain ⟨u, rfl, r1⟩ := vals1 r
    cases r1
    have hH := sG _ _ h1
    obtain ⟨its, rv, p, hz⟩ := I.list (SqL.of hH)
    have dp : DpAll X.K H ws (x :: ys) := drAll_dp (dpAll_same sG h2) hn
    obtain ⟨as, rd⟩ := Dp.readsAll I (x :: ys) ws its dp rv
    refine PySem.W.max_list_data (I.ok.hd hc) p.isList (by simpa using rd) ha (by omega) fun i v h' tk bs hv hr hk => ?_
    have hv' : its[i]? = some v := by simpa using hv
    have I' : Inv X pins σ H { s with heap := h', toks := tk } := I.kept hk
    have il : i < ws.length := by
      rw [rv.length]
      exact (List.getElem?_eq_some_iff.mp hv').1
    have hw : ws[i]? = some ws[i] := List.getElem?_eq_getElem il
    obtain ⟨z, hz2, dz⟩ := dpAll_getV h2 hw
    obtain ⟨u2, hu2, ru⟩ := rv.get hw
    rw [hv'] at hu2
    cases hu2
    have nz : noDict z = true := noDicts_mem hn (List.mem_of_getElem? hz2)
    obtain ⟨bs2, rd2⟩ := Dp.reads I' z _ _ (dr_dp (dp_same sG dz) nz) ru
    have e : z = PySem.W.maxD x ys := (Reads.unique rd2 _ _ hr).1
    subst e
    exact ⟨_, H, I', ru, q _ _ G H hP (Grow.refl sG) dz⟩
  · obtain ⟨v, u, rfl, d1, d2⟩ := all2 da
    cases dp_int d1
    cases dp_int d2
    exact call_max2 hc pins s σ H _ us Q I r ⟨_, _, rfl, q _ _ G H hf (Grow.refl sG) (.int _)⟩
  · exact hf.elim
where
  noDicts_mem : ∀ {xs : List D} {x : D}, noDicts xs = true → x ∈ xs → noDict x = true
    | [], _, _, hm => by cases hm
    | y :: r, x, h, hm => by
      simp only [noDicts, Bool.and_eq_true] at h
      rcases List.mem_cons.mp hm with rfl | hm
      · exact h.1
      · exact noDicts_mem h.2 hm
theorem cd_min (hc : X.calm = true) : CallR X (.builtin "min") (rDC X.K dMin) := by
  intro pins s σ H xs us Q I r h
  obtain ⟨G, ds, P, sG, da, hf, q⟩ := h
  unfold dMin at hf
  split at hf
  · obtain ⟨v, u, rfl, d1, d2⟩ := all2 da
    cases dp_int d1
    cases dp_int d2
    exact call_min2 hc pins s σ H _ us Q I r ⟨_, _, rfl, q _ _ G H hf (Grow.refl sG) (.int _)⟩
  · exact hf.elim
theorem cd_abs : CallR X (.builtin "abs") (rDC X.K dAbs) := by
  intro pins s σ H xs us Q I r h
  obtain ⟨G, ds, P, sG, da, hf, q⟩ := h
  unfold dAbs at hf
  split at hf
  · obtain ⟨v, rfl, d1⟩ := all1 da
    cases dp_int d1
    exact call_abs pins s σ H _ us Q I r ⟨_, rfl, q _ _ G H hf (Grow.refl sG) (.int _)⟩
  · exact hf.elim
theorem cd_divmod : CallR X (.builtin "divmod") (rDC X.K dDivmod) := by
  intro pins s σ H xs us Q I r h
  obtain ⟨G, ds, P, sG, da, hf, q⟩ := h
  unfold dDivmod at hf
  split at hf
  · obtain ⟨v, u, rfl, d1, d2⟩ := all2 da
    cases dp_int d1
    cases dp_int d2
    refine call_divmod pins s σ H _ us Q I r ⟨_, _, rfl, hf.1, fun p hp => ?_⟩
    exact q _ _ _ _ hf.2 (Grow.new1 sG hp) (.tup (SqT.of upd_same) (.cons (.int _) (.cons (.int _) .nil)))
  · exact hf.elim
end
/-! ### while -/
def sWhile (nb c : Nat) (t : MT) (b : MS) : MS := fun E env => ∃ (I : Nat → DEnv → Prop) (m0 : Nat), I m0 env ∧ m0 * nb ≤ c ∧ ∀ m env, I m env → ∃ m1, m1 ≤ m ∧ t env fun k e1 => match k with
  | true => m1 + 1 ≤ m ∧ b { nx := fun e => I m1 e, rt := E.rt, bk := E.nx, ct := fun e => I m1 e } e1
  | false => E.nx e1
section
variable {X : Cx} {cnd : Expr} {body : List Stmt} {mt : MT} {ms : MS} {pos : Pos} {nt nb : Nat}
theorem gs_while (c : Nat) (hp : PassesOwn (model X.prog X.w) X.A X.env X.xe) (hc : GT X cnd nt mt) (hb : GSs X body nb ms) : GS X (.While cnd body [] pos) (c + nt) (sWhile (nt + nb) c mt ms) := ps_imp (ps_while hp hc hb) fun D σ H h => by
  obtain ⟨W, B, G0, H0, G, env, E, R, hm, q⟩ := h
  obtain ⟨Iv, m0, i0, cost, turn⟩ := hm
  refine ⟨fun m σ' H' => ∃ G' e', Same G G' ∧ Rel X.K W (B + (m * (nt + nb) + nt)) G0 H0 G' e' σ' H' ∧ Iv m e', ⟨m0, G, env, Same.refl _, R.le (by omega), i0⟩, ?_⟩
  rintro m σ' H' ⟨G', e', s', R', hI⟩
  obtain ⟨m1, hm1, ht⟩ := turn m e' hI
  refine ⟨W, B + m * (nt + nb), G0, H0, G', e', _, R'.le (by omega), ht, fun k e2 G2 H2 p2 s2 R2 => ?_⟩
  cases k with
  | true =>
    obtain ⟨hlt, p2⟩ := p2
    have hle : (m1 + 1) * (nt + nb) ≤ m * (nt + nb) := Nat.mul_le_mul_right _ hlt
    rw [Nat.add_mul, Nat.one_mul] at hle
    refine iteT ⟨fun σ4 H4 => ∃ G' e', Same G G' ∧ Rel X.K W (B + (m1 * (nt + nb) + nt)) G0 H0 G' e' σ4 H4 ∧ Iv m1 e', fun σ4 H4 h4 => ⟨m1, hlt, h4⟩, ?_⟩
    have sG : Same G G2 := s'.trans s2
    refine ⟨W, B + (m1 * (nt + nb) + nt), G0, H0, G2, e2, _, R2.le (by omega), p2, ⟨fun e5 σ5 G5 H5 p5 s5 R5 => ⟨G5, e5, sG.trans s5, R5, p5⟩, fun x e5 σ5 v G5 H5 p5 s5 R5 => q.rt x e5 σ5 v G5 H5 p5 (sG.trans s5) (R5.le (by omega)), fun e5 σ5 G5 H5 p5 s5 R5 => q.nx e5 σ5 G5 H5 p5 (sG.trans s5) (R5.le (by omega)), fun e5 σ5 G5 H5 p5 s5 R5 => ⟨G5, e5, sG.trans s5, R5, p5⟩⟩⟩
  | false => exact iteF (q.nx _ _ _ _ p2 (s'.trans s2) (R2.le (by omega)))
end
end DL
namespace DL
open PySem PySem.Spec PyProof.Rows L2
/-! ### enumerate(tuple) -/
theorem drawsT {prog : Program} {w : World} {A : Around} (ok : A.handled = none) (it l : Addr) (ne : l ≠ it) (its : Array Value) :
    Draws prog w A it [it, l] its.size (fun i v => its[i]? = some v) (fun i h => h.IsTupleIter it l i ∧ h.IsTuple l its) where
  live := fun _ _ z => by
    obtain ⟨⟨o, ho, _⟩, _⟩ := z
    exact ⟨o, ho⟩
  frame := fun _ _ _ z k => ⟨z.1.at fun o q => k it (by simp) o q, z.2.at fun o q => k l (by simp) o q⟩
  item := fun i s Q E lt z k => by
    refine RZ.nextOf_tuple_item z.1 z.2 (x := its[i]) (by simp [lt]) fun h2 a2 b2 => ?_
    exact k _ h2 s.toks (by simp [lt]) ⟨a2, z.2.extBut b2.extBut ne⟩ b2
  done := fun s Q E z k => RZ.nextOf_tuple_end ok z.1 z.2 (by simp) k
theorem enumT_new (l : Addr) (its : Array Value) (n : Nat) (dct : Option Addr) (sl : Array (Option Value)) :
    Meets (Builtin.«enumerate.__new__» ⟨[.type "enumerate", .ref l], []⟩) (fun _ R s => s.heap.get? l = some ⟨.type "tuple", dct, .seq its n, sl⟩ ∧
      R (.ok (.ret (.ref (s.heap.push { cls := .type "tuple_iterator", data := .fields #[.ref l, .int 0 0] }).objs.size)))
        { s with heap := (s.heap.push { cls := .type "tuple_iterator", data := .fields #[.ref l, .int 0 0] }).push { cls := .type "enumerate", data := .fields #[.none, .bool false, .ref s.heap.objs.size, rawInt 0, .none, .none] } }) :=
  .of_wp fun prog w A R s h => by
    obtain ⟨hp, g, d, tk, os⟩ := s
    obtain ⟨hl, h⟩ := h
    have sb := sub_enumerate
    have tp : Heap.IsTuple (Shared.heap ⟨hp, g, d, tk, os⟩) l its := ⟨_, hl, rfl, n, rfl⟩
    wp_walk using wpAny_loadPart' hl
    refine wpAny_stack_any fun st => wpAny_pure ?_
    split
    · rename_i c _ _ _ _ _
      cases (c == Value.type "enumerate")
      · wp_walk using wpAny_loadPart' hl, wpAny_pyIter_tuple tp
        exact ⟨_, rfl, h⟩
      · wp_walk using wpAny_loadPart' hl, wpAny_pyIter_tuple tp
        exact ⟨_, rfl, h⟩
    · wp_walk using wpAny_loadPart' hl, wpAny_pyIter_tuple tp
      exact ⟨_, rfl, h⟩
theorem call_enumT {prog : Program} {w : World} {A : Around} {E : Value → Shared → Prop} {s : Shared} {l : Addr} {its : Array Value} {Q : Value → Shared → Prop} (tp : s.heap.IsTuple l its)
    (h : ∀ h', IsEnum h' (s.heap.objs.size + 1) s.heap.objs.size 0 .none → h'.IsTupleIter s.heap.objs.size l 0 → (∀ b o, s.heap.get? b = some o → h'.get? b = some o) → Q (.ref (s.heap.objs.size + 1)) { s with heap := h' }) :
    wpAny (model prog w) A (call (.type "enumerate") [.ref l]) Q E s := by
  obtain ⟨⟨c, dct, dt, sl⟩, hl, hc, n, hd⟩ := tp
  simp only at hc hd
  subst hc hd
  refine callType_new F.called_enumerate (by decide) (F.typeCall_enumerate_1 _) (F.newCall_enumerate_1 _) (fun obj => F.args_object_init_2 obj _) F.entry_enumerate_new (enumT_new l its n dct sl) ⟨hl, ?_⟩
  have zs : (s.heap.push { cls := .type "tuple_iterator", data := .fields #[.ref l, .int 0 0] }).objs.size = s.heap.objs.size + 1 := Heap.size_push ..
  show _ ∧ _
  rw [zs]
  have en : IsEnum ((s.heap.push { cls := .type "tuple_iterator", data := .fields #[.ref l, .int 0 0] }).push ⟨.type "enumerate", none, .fields #[.none, .bool false, .ref s.heap.objs.size, rawInt 0, .none, .none], #[]⟩) (s.heap.objs.size + 1) s.heap.objs.size 0 .none := by
    have z := Heap.get?_push_size (s.heap.push { cls := .type "tuple_iterator", data := .fields #[.ref l, .int 0 0] }) (o := ⟨.type "enumerate", none, .fields #[.none, .bool false, .ref s.heap.objs.size, rawInt 0, .none, .none], #[]⟩) rfl
    rw [zs] at z
    exact z
  exact ⟨⟨_, en, rfl⟩, h _ en ⟨_, Heap.get?_push_of_some _ (Heap.get?_push_size _ rfl), rfl, rfl⟩ fun b o x => Heap.get?_push_of_some _ (Heap.get?_push_of_some _ x)⟩
/-- the tuple at a, each item in a new pair -/
def IteT (K : PySem.W.Frag) (a : Addr) : It :=
  ⟨fun i H => ∃ (xs : List V) (x : V), SqT K H a xs ∧ xs[i]? = some x, fun i H v H' => ∃ T x, v = .ref T ∧ H T = none ∧ H' = upd H T (.tup [.int (i : Nat), x]) ∧ ∀ xs, SqT K H a xs → xs[i]? = some x, fun i H => ∃ xs : List V, SqT K H a xs ∧ xs.length ≤ i⟩
theorem turn_enumT {P : Program} {w : World} {K : PySem.W.Frag} {elts : List Expr} {kk : Nat} {tpos : Pos} (a e it : Addr) (na : a ≠ it) (ne : a ≠ e) :
    Turn P w K (.Tuple elts kk tpos) (IteT K a) [e, it] e (fun i h => (∃ old, IsEnum h e it ((i : Nat) : Int) old) ∧ h.IsTupleIter it a i ∧ e ≠ it) where
  mem := by simp
  obj := fun i h st b hb => by
    obtain ⟨⟨old, he⟩, ⟨o, ho, hc, hd⟩, _⟩ := st
    rcases List.mem_cons.mp hb with z | z
    · rw [z]
      exact ⟨_, he, fun v q => nomatch q⟩
    · rw [List.mem_singleton.mp z]
      exact ⟨o, ho, fun v q => by rw [hd] at q; cases q⟩
  keep := fun i h h' st k => by
    obtain ⟨⟨old, he⟩, hi, hne⟩ := st
    exact ⟨⟨old, k e (by simp) _ he⟩, hi.at fun o q => k it (by simp) o q, hne⟩
  item := by
    intro X hP hw hK hc i pins s σ H E I hf st hg
    subst hP hw hK
    obtain ⟨⟨old, he⟩, hit, hne⟩ := st
    obtain ⟨xs, x, hq, hx⟩ := hg
    obtain ⟨its, rv, p, hz⟩ := I.tuple hq
    obtain ⟨u, hu, ru⟩ := rv.get hx
    have le1 : e < s.heap.objs.size := Heap.lt_size he
    have le2 : it < s.heap.objs.size := by
      obtain ⟨_, q, _⟩ := hit
      exact Heap.lt_size q
    have lt : i < its.toArray.size := by
      rw [List.size_toArray]
      exact (List.getElem?_eq_some_iff.mp hu).1
    refine wpAny_pyNext_enum_itemD (drawsT (A := X.A.in1) (I.ok.hd hc) it a na its.toArray) he ⟨hit, p⟩ lt hne (by simp [hne, Ne.symm ne]) fun y h2 tk hy ho st2 hT hsz hk => ?_
    have ey : y = u := by
      have : its.toArray[i]? = some u := by simpa using hu
      rw [this] at hy
      exact (Option.some.inj hy).symm
    subst ey
    refine ⟨_, rfl, wpAny_letOwnedTupleGo_enum (s := { s with heap := h2, toks := tk + 1 }) ho fun h3 he3 sb => ?_⟩
    have hT3 : h3.get? s.heap.objs.size = some { cls := .type "tuple", data := .seq #[.int i tk, y] } := (sb.2 _ (Nat.ne_of_gt le1)).trans hT
    have nw : ObjOk X.prog X.w (upd H s.heap.objs.size (.tup [.int (i : Nat), x])) h3 s.heap.objs.size (.tup [.int (i : Nat), x]) := ⟨by show 2 ≤ sizeLine; decide, [.int i tk, y], .cons ⟨_, rfl⟩ (.cons ru .nil), ⟨_, hT3, rfl, _, rfl⟩⟩
    have I1 : Inv X pins σ (upd H s.heap.objs.size (.tup [.int (i : Nat), x])) { s with heap := h3, toks := tk + 1 } := by
      refine I.turnedNew (ch := [e, it]) (fun b ob hb q => ?_) hf (Nat.le_refl _) nw
      have b1 : b ≠ e := fun z => hb (by simp [z])
      have b2 : b ≠ it := fun z => hb (by simp [z])
      exact (sb.2 b b1).trans (hk b ob b1 b2 q)
    refine ⟨.ref s.heap.objs.size, _, I1, rfl, ⟨_, x, rfl, I.hok.fresh (Nat.le_refl _), rfl, fun ys hy => by rw [I.tuple_inj hy hq]; exact hx⟩, ⟨⟨y, ?_⟩, st2.1.at fun o q => (sb.2 it (Ne.symm hne)).trans q, hne⟩, fun b hb => ?_⟩
    · have e1 : ((i + 1 : Nat) : Int) = (i : Int) + 1 := by omega
      rw [e1]
      exact he3
    · have lb : b < s.heap.objs.size := by
        rcases List.mem_cons.mp hb with z | z
        · rw [z]
          exact le1
        · rw [List.mem_singleton.mp z]
          exact le2
      rw [upd_ne (Nat.ne_of_lt lb)]
      exact (hf b hb).1
  done := by
    intro X hP hw hK hc i pins s σ H E I hf st hg
    subst hP hw hK
    obtain ⟨⟨old, he⟩, hit, hne⟩ := st
    obtain ⟨xs, hq, hx⟩ := hg
    obtain ⟨its, rv, p, hz⟩ := I.tuple hq
    obtain ⟨f0, f1, f2, f3, f4, f5⟩ := hf it (by simp)
    have hl := rv.length
    have D0 : Draws X.prog X.w X.A.in1 it [it, a] 0 (fun _ _ => True) (fun j h => h.IsTupleIter it a (i + j) ∧ h.IsTuple a its.toArray) :=
      { live := fun _ _ z => by
          obtain ⟨⟨o, ho, _⟩, _⟩ := z
          exact ⟨o, ho⟩
        frame := fun _ _ _ z k => ⟨z.1.at fun o q => k it (by simp) o q, z.2.at fun o q => k a (by simp) o q⟩
        item := fun j _ _ _ lt => absurd lt (Nat.not_lt_zero j)
        done := fun s Q E z k => RZ.nextOf_tuple_end (I.ok.hd hc) z.1 z.2 (by simp; omega) k }
    exact wpAny_pyNext_enum_endD D0 he ⟨hit, p⟩ fun h2 eb => ⟨rfl, I.turned (t' := s.toks) (fun b o hb q => eb b o hb q) f0 f1 f3 f4 f5⟩
  self := fun A i s Q E st h => by
    obtain ⟨⟨_, he⟩, _⟩ := st
    exact wpAny_pyIter_enum he h
def iEnumT (K : PySem.W.Frag) (ta : TA) : TI := fun σ H R => ta σ H fun vs H1 => ∃ a xs, vs = [.ref a] ∧ SqT K H1 a xs ∧ R (IteT K a) H1
theorem pi_enumT {X : Cx} {e : Expr} {ta : TA} {p pos tpos : Pos} {elts : List Expr} {kk : Nat} (hg : Gl X "enumerate") (hm : X.mg "enumerate" = none) (ha : PA X [e] ta) (hs : starEach [e] X.env = [(false, eval e X.env)] := by rfl) :
    PI X (.Tuple elts kk tpos) (.Call (.Name "enumerate" p) [e] [] pos) (iEnumT X.K ta) := by
  refine ⟨fun pins s σ H R I h => ?_⟩
  refine Call_ (ld_blt I hg hm boot_enumerate (callWith_type1 (thn (ha.run pos pins s σ H _ I h) fun us s1 ⟨vs, H1, I1, r1, q1⟩ => ?_) hs rfl))
  obtain ⟨a, xs, rfl, hq, q⟩ := q1
  obtain ⟨u, rfl, r⟩ := vals1 r1
  cases r
  obtain ⟨its, rv, tp, hz⟩ := I1.tuple hq
  have la : a < s1.heap.objs.size := by
    obtain ⟨o, ho, _⟩ := tp
    exact Heap.lt_size ho
  refine call_enumT tp fun h2 he hit hk => wpAny_pyIter_enum he ?_
  have I2 : Inv X pins σ H1 { s1 with heap := h2 } := I1.kept (t' := s1.toks) hk
  refine ⟨s1.heap.objs.size + 1, [s1.heap.objs.size + 1, s1.heap.objs.size], _, _, H1, rfl, I2, turn_enumT a (s1.heap.objs.size + 1) s1.heap.objs.size (Nat.ne_of_lt la) (Nat.ne_of_lt (Nat.lt_succ_of_lt la)), ⟨⟨.none, he⟩, hit, Nat.succ_ne_self _⟩, fun b hb => ?_, q⟩
  have lb : s1.heap.objs.size ≤ b := by
    rcases List.mem_cons.mp hb with z | z
    · rw [z]
      exact Nat.le_succ _
    · rw [List.mem_singleton.mp z]
      exact Nat.le_refl _
  exact I1.fpOk lb (I1.hok.fresh lb)
theorem itd_enumT {K : PySem.W.Frag} {G : Hp} {a : Addr} {us : List V} {ds : List D} (h1 : SqT K G a us) (h2 : DrAll K G us ds) : ItD K G (IteT K a) (pairs ds) := fun G1 H1 s1 s2 i => by
  have q : SqT K H1 a us := same_sqT (s1.trans s2) h1
  refine ⟨fun x hx => ?_, fun hl => ?_⟩
  · unfold pairs at hx
    rw [List.getElem?_mapIdx, Option.map_eq_some_iff] at hx
    obtain ⟨y, hy, rfl⟩ := hx
    obtain ⟨v, e, d⟩ := dpAll_get h2 hy
    refine ⟨⟨us, v, q, e⟩, fun w H2 z => ?_⟩
    obtain ⟨T, u, rfl, hT, rfl, z⟩ := z
    have := z us q
    rw [e] at this
    cases this
    exact ⟨_, Grow.new1 s2 hT, .tup (SqT.of upd_same) (.cons (.int _) (.cons (dp_same (s1.trans (same_upd (s2.free hT))) d) .nil))⟩
  · refine ⟨us, q, ?_⟩
    unfold pairs at hl
    rw [List.length_mapIdx] at hl
    rw [dpAll_len h2]
    exact hl
def miEnumT (a : MA) : MI := fun env P => a env fun as e1 => match as with
  | [.d (.tuple xs)] => P (pairs xs) e1
  | _ => False
theorem gi_enumT {X : Cx} {e : Expr} {m1 : MA} {n1 : Nat} {p pos tpos : Pos} {elts : List Expr} {kk : Nat} (hg : Gl X "enumerate") (hm : X.mg "enumerate" = none) (ha : GA X [e] n1 m1) (hs : starEach [e] X.env = [(false, eval e X.env)] := by rfl) :
    GI X (.Tuple elts kk tpos) (.Call (.Name "enumerate" p) [e] [] pos) n1 (miEnumT m1) := pi_imp (pi_enumT hg hm ha hs) fun σ H R h => by
  obtain ⟨W, B, G0, H0, G, env, P, Rl, hm1, q⟩ := h
  refine ⟨W, B, G0, H0, G, env, _, Rl, hm1, fun as e1 us G1 H1 p1 s1 R1 a1 => ?_⟩
  split at p1
  · cases a1 with
    | cons x1 y1 =>
      cases y1
      obtain ⟨a, ws, rfl, h1, h2⟩ := dp_tup x1
      exact ⟨a, ws, rfl, same_sqT R1.pub h1, q _ _ _ _ _ p1 s1 R1 (itd_enumT h1 h2)⟩
  · exact p1.elim
end DL
namespace DL
open PySem PySem.Spec PyProof.Rows L2
/-! ### zip(a, b, strict=True) -/
abbrev kwS : List (Str × Value) := [("strict", .bool true)]
def zipObj (TI TO : Addr) (f0 : Value) : Obj := { cls := .type "zip", data := .fields #[f0, .bool false, .bool true, .ref TI, .ref TO] }
theorem zs_typeCall (a b : Value) : checkTypeCall "zip" ⟨[a, b], kwS⟩ = pure () := by kernel_rfl
theorem zs_newCall (a b : Value) : checkBuiltinCall "zip.__new__" ⟨[.type "zip", a, b], kwS⟩ = pure () := by kernel_rfl
theorem zs_initArgs (o a b : Value) : argsOk "object.__init__" ⟨[o, a, b], kwS⟩ := by
  unfold argsOk
  kernel_rfl
theorem zs_init (self a b : Value) : Meets (Builtin.«object.__init__» ⟨[self, a, b], kwS⟩) (fun _ R s => s.TypeIs self "zip" ∧ R (.ok (.ret .none)) s) := by
  refine Meets.of_wp fun prog w A R s hs => ?_
  obtain ⟨hT, hq⟩ := hs
  have f1 := F.called_zip.init.lookup
  have f2 := F.called_zip.made
  repeat (any_goals (first | assumption | wp_step))
  exact ⟨_, rfl, hq⟩
abbrev zsH1 (h : Heap) (l1 : Addr) : Heap := h.push { cls := .type "tuple_iterator", data := .fields #[.ref l1, .int 0 0] }
abbrev zsH2 (h : Heap) (l1 l2 : Addr) : Heap := (zsH1 h l1).push { cls := .type "tuple_iterator", data := .fields #[.ref l2, .int 0 0] }
abbrev zsH3 (h : Heap) (l1 l2 : Addr) : Heap := (zsH2 h l1 l2).push { cls := .type "tuple", data := .seq #[.ref h.objs.size, .ref (zsH1 h l1).objs.size] }
abbrev zsH4 (h : Heap) (l1 l2 : Addr) : Heap := (zsH3 h l1 l2).push { cls := .type "tuple", data := .seq #[.none, .none] }
abbrev zsH5 (h : Heap) (l1 l2 : Addr) : Heap := (zsH4 h l1 l2).push (zipObj (zsH2 h l1 l2).objs.size (zsH3 h l1 l2).objs.size .none)
theorem zs_new (l1 l2 : Addr) (xs ys : Array Value) : Meets (Builtin.«zip.__new__» ⟨[.type "zip", .ref l1, .ref l2], kwS⟩) (fun _ R s => s.heap.IsTuple l1 xs ∧ s.heap.IsTuple l2 ys ∧ R (.ok (.ret (.ref (zsH4 s.heap l1 l2).objs.size))) { s with heap := zsH5 s.heap l1 l2 }) :=
  .of_wp fun prog w A R s h => by
    obtain ⟨hp, g, d, tk, os⟩ := s
    obtain ⟨t1, t2, h⟩ := h
    have sb := sub_zip
    have T1 : Heap.IsTuple (Shared.heap ⟨hp, g, d, tk, os⟩) l1 xs := t1
    have T2 : Heap.IsTuple (Shared.heap ⟨hp.push { cls := .type "tuple_iterator", data := .fields #[.ref l1, .int 0 0] }, g, d, tk, os⟩) l2 ys := Heap.IsTuple.push t2 _
    wp_walk using wpAny_pyIter_tuple T1, wpAny_pyIter_tuple T2
    exact ⟨_, rfl, h⟩
end DL
namespace DL
open PySem PySem.Spec PyProof.Rows L2
theorem zs_call {prog : Program} {w : World} {A : Around} {E : Value → Shared → Prop} {s : Shared} {l1 l2 : Addr} {xs ys : Array Value} {Q : Value → Shared → Prop} (t1 : s.heap.IsTuple l1 xs) (t2 : s.heap.IsTuple l2 ys)
    (h : Q (.ref (zsH4 s.heap l1 l2).objs.size) { s with heap := zsH5 s.heap l1 l2 }) : wpAny (model prog w) A (call (.type "zip") [.ref l1, .ref l2] kwS) Q E s := by
  have ft := F.called_zip
  obtain ⟨c, tl, hmro⟩ := ft.mro
  have hmade := ft.made
  have hsub := ft.sub
  refine wpAny_call (codeAny_of_tree ?_)
  show wpAny _ _ (callAny (.type "zip") _) _ _ _
  refine wpAny_pure ⟨Code.quiet_builtin _ (by decide +kernel), codeAny_builtin F.entry_type_call ?_⟩
  rw [Around.under_plain (weight_type_call_type "zip" _ _) (units_type_call_type "zip" _ _)]
  have n1 := ft.notType
  have n2 := ft.canCreate
  have hct := zs_typeCall (.ref l1) (.ref l2)
  repeat (any_goals (first | assumption | wp_step))
  refine codeAny_mono (codeAny_call_builtin ft.plain F.entry_zip_new (wpAny_of_eq (zs_newCall _ _) (zs_new l1 l2 xs ys prog w A.in1 (wants (fun obj s1 => obj = .ref (zsH4 s.heap l1 l2).objs.size ∧ s1 = { s with heap := zsH5 s.heap l1 l2 }) E) s ⟨t1, t2, rfl, rfl⟩))) fun r s1 hr => ?_
  cases r with
  | error e => exact hr
  | ok fl =>
    cases fl with
    | ret obj =>
      obtain ⟨rfl, rfl⟩ := hr
      have g5 : (zsH5 s.heap l1 l2).get? (zsH4 s.heap l1 l2).objs.size = some (zipObj (zsH2 s.heap l1 l2).objs.size (zsH3 s.heap l1 l2).objs.size .none) := Heap.get?_push_size _ rfl
      have hT : Shared.TypeIs { s with heap := zsH5 s.heap l1 l2 } (.ref (zsH4 s.heap l1 l2).objs.size) "zip" := ⟨_, g5, rfl⟩
      have k1 := ft.init.lookup
      have k2 := ft.init.bind (.ref (zsH4 s.heap l1 l2).objs.size)
      repeat (any_goals (first | assumption | wp_step))
      refine codeAny_mono (codeAny_call_builtin ft.init.plain F.entry_object_init (ft.init.check _ _ _ _ _ _ _ _ hT (zs_initArgs _ _ _) (zs_init _ _ _ prog w A.in1 (wants (fun r s2 => r = .none ∧ s2 = { s with heap := zsH5 s.heap l1 l2 }) E) _ ⟨hT, rfl, rfl⟩))) fun r2 s2 hr2 => ?_
      cases r2 with
      | error e => exact hr2
      | ok f2 =>
        cases f2 with
        | ret r =>
          obtain ⟨rfl, rfl⟩ := hr2
          repeat (any_goals (first | assumption | wp_step))
        | _ => exact hr2.elim
    | _ => exact hr.elim
end DL
namespace DL
open PySem PySem.Spec PyProof.Rows L2
section
variable {prog : Program} {w : World} {A : Around} {E : Value → Shared → Prop} {s : Shared}
theorem noe_item {it l : Addr} {i : Nat} {its : Array Value} {x : Value} {Q : Option Value → Shared → Prop} (hit : s.heap.IsTupleIter it l i) (hl : s.heap.IsTuple l its) (hx : its[i]? = some x)
    (hQ : ∀ h', h'.IsTupleIter it l (i + 1) → Heap.SameBut it s.heap h' → Q (some x) { s with heap := h' }) : wpAny (model prog w) A (Builtin.SmallTypes.nextOrEnd (.ref it)) Q E s := by
  unfold Builtin.SmallTypes.nextOrEnd
  exact wpAny_bind (wpAny_attempt (RZ.nextOf_tuple_item hit hl hx fun h2 a b => wpAny_pure (hQ h2 a b)))
theorem noe_end {it l : Addr} {i : Nat} {its : Array Value} {Q : Option Value → Shared → Prop} (ok : A.handled = none) (hit : s.heap.IsTupleIter it l i) (hl : s.heap.IsTuple l its) (hx : its[i]? = none)
    (hQ : ∀ h', Heap.ExtBut it s.heap h' → Q none { s with heap := h' }) : wpAny (model prog w) A (Builtin.SmallTypes.nextOrEnd (.ref it)) Q E s := by
  unfold Builtin.SmallTypes.nextOrEnd
  refine wpAny_bind (wpAny_attempt (RZ.nextOf_tuple_end ok hit hl hx fun h2 e a b => ?_))
  obtain ⟨o, ho, hc⟩ := b
  exact wpAny_bind (wpAny_isInstance (T := "StopIteration") (b := true) ⟨o, ho, hc⟩ isSubtype_stop (wpAny_pure (hQ h2 a)))
abbrev IsZs (h : Heap) (z TI TO : Addr) (f0 : Value) : Prop := h.get? z = some { cls := .type "zip", data := .fields #[f0, .bool false, .bool true, .ref TI, .ref TO] }
theorem zs_next {z TI TO i1 i2 l1 l2 : Addr} {k1 k2 : Nat} {xs ys : Array Value} {x y a b : Value} {Q : Value → Shared → Prop} (D : ZipApart z TI TO i1 i2 l1 l2) (hz : IsZs s.heap z TI TO .none) (hTI : IsPair s.heap TI (.ref i1) (.ref i2)) (hTO : IsPair s.heap TO a b)
    (n1 : s.heap.IsTupleIter i1 l1 k1) (n2 : s.heap.IsTupleIter i2 l2 k2) (t1 : s.heap.IsTuple l1 xs) (t2 : s.heap.IsTuple l2 ys) (hx : xs[k1]? = some x) (hy : ys[k2]? = some y)
    (hQ : ∀ h', IsZs h' z TI TO (rawInt s.heap.objs.size) → IsPair h' TO x y → h'.IsTupleIter i1 l1 (k1 + 1) → h'.IsTupleIter i2 l2 (k2 + 1) → IsPair h' s.heap.objs.size x y →
      (∀ c o, c ≠ z → c ≠ TO → c ≠ i1 → c ≠ i2 → s.heap.get? c = some o → h'.get? c = some o) → Q (.ref s.heap.objs.size) { s with heap := h' }) :
    wpAny (model prog w) A (Builtin.«zip.__next__» ⟨[.ref z], []⟩) (fun fin s' => ∃ v, fin = .done (.ret v) ∧ Q v s') E s := by
  show wpAny _ _ (field (.ref z) 2 >>= _) _ _ _
  refine wpAny_bind (wpAny_field hz rfl (x := .bool true) rfl ?_)
  show wpAny _ _ (field (.ref z) 3 >>= _) _ _ _
  refine wpAny_bind (wpAny_field hz rfl (x := .ref TI) rfl (wpAny_bind (wpAny_seqItems hTI rfl ?_)))
  show wpAny _ _ (Builtin.SmallTypes.ownedTupleIsFree (.ref z) >>= _) _ _ _
  refine wpAny_bind ?_
  unfold Builtin.SmallTypes.ownedTupleIsFree
  refine wpAny_bind (wpAny_field hz rfl (x := .none) rfl (wpAny_pure ?_))
  simp only [if_true]
  refine wpAny_bind (wpAny_rule (wpAny_bind (wpAny_field hz rfl (x := .ref TO) rfl ?_)))
  refine wpAny_bind (wpAny_setField_rec hz (by simp) fun ha za sa => ?_)
  have za : IsZs ha z TI TO .ellipsis := za
  refine wpAny_bind ?_
  simp only [List.zipIdx_cons, List.zipIdx_nil, List.forIn_cons, List.forIn_nil]
  refine wpAny_bind (wpAny_bind (wpAny_onRaise ?_))
  show wpAny _ _ (Builtin.SmallTypes.nextOrEnd (.ref i1)) _ _ _
  refine noe_item (n1.extBut sa.extBut D.i1z) (t1.extBut sa.extBut D.l1z) hx fun hb nb sb => ?_
  have ob : IsPair hb TO a b := sb.extBut _ _ D.TOi1 (sa.extBut _ _ D.TOz hTO)
  refine wpAny_bind (wpAny_seqItems ob rfl (wpAny_bind (wpAny_updateSeq_pair ob fun hc oc sc => ?_)))
  have oc : IsPair hc TO x b := oc
  refine wpAny_bind (wpAny_letGo (wpAny_pure ?_))
  refine wpAny_bind (wpAny_bind (wpAny_onRaise ?_))
  show wpAny _ _ (Builtin.SmallTypes.nextOrEnd (.ref i2)) _ _ _
  refine noe_item (((n2.extBut sa.extBut D.i2z).extBut sb.extBut D.i12.symm).extBut sc.extBut D.TOi2.symm) (((t2.extBut sa.extBut D.l2z).extBut sb.extBut D.l2i1).extBut sc.extBut D.l2TO) hy fun hd nd sd => ?_
  have od : IsPair hd TO x b := sd.extBut _ _ D.TOi2 oc
  refine wpAny_bind (wpAny_seqItems od rfl (wpAny_bind (wpAny_updateSeq_pair od fun he oe se => ?_)))
  have oe : IsPair he TO x y := oe
  refine wpAny_bind (wpAny_letGo (wpAny_pure (wpAny_pure ?_)))
  refine wpAny_bind (wpAny_seqItems oe rfl (wpAny_bind (wpAny_newTuple ?_)))
  have sz : he.objs.size = s.heap.objs.size := by rw [se.1, sd.1, sc.1, sb.1, sa.1]
  have ze : IsZs he z TI TO .ellipsis := se.extBut _ _ D.TOz.symm (sd.extBut _ _ D.i2z.symm (sc.extBut _ _ D.TOz.symm (sb.extBut _ _ D.i1z.symm za)))
  have ke : ∀ c o, c ≠ z → c ≠ TO → c ≠ i1 → c ≠ i2 → s.heap.get? c = some o → he.get? c = some o := fun c o c1 c2 c3 c4 q => se.extBut _ _ c2 (sd.extBut _ _ c4 (sc.extBut _ _ c2 (sb.extBut _ _ c3 (sa.extBut _ _ c1 q))))
  have ne1 : he.IsTupleIter i1 l1 (k1 + 1) := ((nb.extBut sc.extBut D.TOi1.symm).extBut sd.extBut D.i12).extBut se.extBut D.TOi1.symm
  have ne2 : he.IsTupleIter i2 l2 (k2 + 1) := nd.extBut se.extBut D.TOi2.symm
  have zl : z < he.objs.size := Heap.lt_size ze
  show wpAny _ _ (Builtin.SmallTypes.ownedTupleHandOut (.ref z) (.ref he.objs.size) >>= _) _ _ _
  refine wpAny_bind ?_
  unfold Builtin.SmallTypes.ownedTupleHandOut
  have zf : IsZs (he.push { cls := .type "tuple", data := .seq #[x, y] }) z TI TO .ellipsis := Heap.get?_push_of_some _ ze
  refine wpAny_bind (wpAny_setField_rec zf (by simp) fun hg zg sg => ?_)
  have zg : IsZs hg z TI TO (rawInt he.objs.size) := zg
  refine wpAny_setField_rec zg (by simp) fun hh zh sh => ?_
  have zh : IsZs hh z TI TO (rawInt he.objs.size) := zh
  have up : ∀ c o, c ≠ z → he.get? c = some o → hh.get? c = some o := fun c o c1 q => sh.extBut _ _ c1 (sg.extBut _ _ c1 (Heap.get?_push_of_some _ q))
  have pr : IsPair hh he.objs.size x y := sh.extBut _ _ (Nat.ne_of_gt zl) (sg.extBut _ _ (Nat.ne_of_gt zl) (Heap.get?_push_size _ rfl))
  rw [sz] at zh pr
  refine wpAny_pure ⟨_, rfl, ?_⟩
  show Q (.ref he.objs.size) _
  rw [sz]
  exact hQ hh zh (up _ _ D.TOz oe) (ne1.at fun o q => up _ o D.i1z q) (ne2.at fun o q => up _ o D.i2z q) pr fun c o c1 c2 c3 c4 q => up c o c1 (ke c o c1 c2 c3 c4 q)
end
end DL
namespace DL
open PySem PySem.Spec PyProof.Rows L2
section
variable {prog : Program} {w : World} {A : Around} {E : Value → Shared → Prop} {s : Shared}
/-- both come to their end -/
theorem zs_end {z TI TO i1 i2 l1 l2 : Addr} {k1 k2 : Nat} {xs ys : Array Value} {a b : Value} {Q : Fin → Shared → Prop} (ok : A.handled = none) (D : ZipApart z TI TO i1 i2 l1 l2) (hz : IsZs s.heap z TI TO .none) (hTI : IsPair s.heap TI (.ref i1) (.ref i2))
    (n1 : s.heap.IsTupleIter i1 l1 k1) (n2 : s.heap.IsTupleIter i2 l2 k2) (t1 : s.heap.IsTuple l1 xs) (t2 : s.heap.IsTuple l2 ys) (hx : xs[k1]? = none) (hy : ys[k2]? = none) (hTO : IsPair s.heap TO a b)
    (hE : ∀ h' e, (∀ c o, c ≠ z → c ≠ i1 → c ≠ i2 → s.heap.get? c = some o → h'.get? c = some o) → (∃ o, h'.get? e = some o ∧ o.cls = .type "StopIteration") → E (.ref e) { s with heap := h' }) :
    wpAny (model prog w) A (Builtin.«zip.__next__» ⟨[.ref z], []⟩) Q E s := by
  show wpAny _ _ (field (.ref z) 2 >>= _) _ _ _
  refine wpAny_bind (wpAny_field hz rfl (x := .bool true) rfl ?_)
  show wpAny _ _ (field (.ref z) 3 >>= _) _ _ _
  refine wpAny_bind (wpAny_field hz rfl (x := .ref TI) rfl (wpAny_bind (wpAny_seqItems hTI rfl ?_)))
  show wpAny _ _ (Builtin.SmallTypes.ownedTupleIsFree (.ref z) >>= _) _ _ _
  refine wpAny_bind ?_
  unfold Builtin.SmallTypes.ownedTupleIsFree
  refine wpAny_bind (wpAny_field hz rfl (x := .none) rfl (wpAny_pure ?_))
  simp only [if_true]
  refine wpAny_bind (wpAny_rule (wpAny_bind (wpAny_field hz rfl (x := .ref TO) rfl ?_)))
  refine wpAny_bind (wpAny_setField_rec hz (by simp) fun ha za sa => ?_)
  have za : IsZs ha z TI TO .ellipsis := za
  refine wpAny_bind ?_
  simp only [List.zipIdx_cons, List.zipIdx_nil, List.forIn_cons, List.forIn_nil]
  refine wpAny_bind (wpAny_bind (wpAny_onRaise ?_))
  show wpAny _ _ (Builtin.SmallTypes.nextOrEnd (.ref i1)) _ _ _
  refine noe_end ok (n1.extBut sa.extBut D.i1z) (t1.extBut sa.extBut D.l1z) hx fun hb eb => ?_
  have zb : IsZs hb z TI TO .ellipsis := eb _ _ D.i1z.symm za
  refine wpAny_bind (wpAny_setField_rec zb (by simp) fun hc zc sc => ?_)
  have up : ∀ c o, c ≠ z → c ≠ i1 → s.heap.get? c = some o → hc.get? c = some o := fun c o c1 c2 q => sc.extBut _ _ c1 (eb _ _ c2 (sa.extBut _ _ c1 q))
  have N2 : hc.IsTupleIter i2 l2 k2 := n2.at fun o q => up i2 o D.i2z D.i12.symm q
  have T2 : hc.IsTuple l2 ys := t2.at fun o q => up l2 o D.l2z D.l2i1 q
  refine wpAny_bind ?_
  refine wpAny_bind ?_
  simp only [List.drop_succ_cons, List.drop_zero, List.zipIdx_cons, List.zipIdx_nil, List.forIn_cons, List.forIn_nil]
  refine wpAny_bind (wpAny_bind (noe_end ok N2 T2 hy fun hd ed => ?_))
  refine wpAny_ite_false (decide_eq_false (by simp)) (wpAny_pure (wpAny_pure ?_))
  refine wpAny_bind (wpAny_rule ?_)
  show wpAny _ _ (newExc (.type "StopIteration") [] >>= _) _ _ _
  refine wpAny_bind ?_
  simp only [newExc, newTuple]
  refine wpAny_bind (wpAny_newObj_type (wpAny_bind (m := firstArgMember _ _) (wpAny_of_eq (a := Value.none) (by first | rfl | (simp only [firstArgMember]; rfl)) (wpAny_newObj_type ?_ (by size_fits)))) (by size_fits))
  simp only [raiseNew]
  refine wpAny_bind (wpAny_handled ?_)
  rw [ok]
  refine wpAny_bind (wpAny_pure (wpAny_throw ?_))
  exact hE _ _ (fun c o c1 c2 c3 q => Heap.get?_push_of_some _ (Heap.get?_push_of_some _ (ed _ _ c3 (up c o c1 c2 q)))) ⟨_, Heap.get?_push_size _ rfl, rfl⟩
theorem zs_go {elts : List Expr} {x1 : Nat} {pos : Pos} {z TI TO T : Addr} {Q : Unit → Shared → Prop} (hz : IsZs s.heap z TI TO (rawInt T)) (hQ : ∀ h', IsZs h' z TI TO .none → Heap.SameBut z s.heap h' → Q () { s with heap := h' }) :
    wpAny (model prog w) A (letOwnedTupleGo (.Tuple elts x1 pos) (.ref z) (.ref T)) Q E s := by
  unfold letOwnedTupleGo
  refine wpAny_bind (wpAny_load hz ?_)
  refine wpAny_ite_true (decide_eq_true (by simp)) ?_
  exact wpAny_bind (wpAny_rule (wpAny_setField_rec hz (by simp) fun h2 a b => hQ h2 a b))
theorem zs_iter {z TI TO : Addr} {f0 : Value} {Q : Value → Shared → Prop} (hz : IsZs s.heap z TI TO f0) (h : Q (.ref z) s) : wpAny (model prog w) A (pyIter (.ref z)) Q E s := by
  have hT : s.TypeIs (.ref z) "zip" := ⟨_, hz, rfl⟩
  refine wpAny_pyIter_slot hT F.slot_zip_iter (wpAny_call_entry F.slot_zip_iter hT F.entry_zip_iter ?_ (F.args_zip_iter_1 _))
  exact wpAny_pure ⟨_, rfl, "zip", _, hT, F.slot_zip_next.lookup, h⟩
end
end DL
namespace DL
open PySem PySem.Spec PyProof.Rows L2
section
variable {prog : Program} {w : World} {A : Around} {E : Value → Shared → Prop} {s : Shared}
theorem zs_pyNext {z TI TO i1 i2 l1 l2 : Addr} {k1 k2 : Nat} {xs ys : Array Value} {x y a b : Value} {Q : Option Value → Shared → Prop} (D : ZipApart z TI TO i1 i2 l1 l2) (hz : IsZs s.heap z TI TO .none) (hTI : IsPair s.heap TI (.ref i1) (.ref i2)) (hTO : IsPair s.heap TO a b)
    (n1 : s.heap.IsTupleIter i1 l1 k1) (n2 : s.heap.IsTupleIter i2 l2 k2) (t1 : s.heap.IsTuple l1 xs) (t2 : s.heap.IsTuple l2 ys) (hx : xs[k1]? = some x) (hy : ys[k2]? = some y)
    (hQ : ∀ h', IsZs h' z TI TO (rawInt s.heap.objs.size) → IsPair h' TO x y → h'.IsTupleIter i1 l1 (k1 + 1) → h'.IsTupleIter i2 l2 (k2 + 1) → IsPair h' s.heap.objs.size x y →
      (∀ c o, c ≠ z → c ≠ TO → c ≠ i1 → c ≠ i2 → s.heap.get? c = some o → h'.get? c = some o) → Q (some (.ref s.heap.objs.size)) { s with heap := h' }) : wpAny (model prog w) A (pyNext (.ref z)) Q E s := by
  have hT : s.TypeIs (.ref z) "zip" := ⟨_, hz, rfl⟩
  unfold pyNext
  exact wpAny_bind (wpAny_attempt (wpAny_callSpecial?_slot (name := Str.ofString "__next__") hT F.slot_zip_next (wpAny_call_entry F.slot_zip_next hT F.entry_zip_next (zs_next D hz hTI hTO n1 n2 t1 t2 hx hy fun h2 a1 a2 a3 a4 a5 a6 => wpAny_pure (hQ h2 a1 a2 a3 a4 a5 a6)) (F.args_zip_next_1 _))))
theorem zs_pyEnd {z TI TO i1 i2 l1 l2 : Addr} {k1 k2 : Nat} {xs ys : Array Value} {a b : Value} {Q : Option Value → Shared → Prop} (ok : A.handled = none) (D : ZipApart z TI TO i1 i2 l1 l2) (hz : IsZs s.heap z TI TO .none) (hTI : IsPair s.heap TI (.ref i1) (.ref i2)) (hTO : IsPair s.heap TO a b)
    (n1 : s.heap.IsTupleIter i1 l1 k1) (n2 : s.heap.IsTupleIter i2 l2 k2) (t1 : s.heap.IsTuple l1 xs) (t2 : s.heap.IsTuple l2 ys) (hx : xs[k1]? = none) (hy : ys[k2]? = none)
    (hQ : ∀ h', (∀ c o, c ≠ z → c ≠ i1 → c ≠ i2 → s.heap.get? c = some o → h'.get? c = some o) → Q none { s with heap := h' }) : wpAny (model prog w) A (pyNext (.ref z)) Q E s := by
  have hT : s.TypeIs (.ref z) "zip" := ⟨_, hz, rfl⟩
  unfold pyNext
  refine wpAny_bind (wpAny_attempt (wpAny_callSpecial?_slot (name := Str.ofString "__next__") hT F.slot_zip_next (wpAny_call_entry F.slot_zip_next hT F.entry_zip_next (zs_end ok D hz hTI n1 n2 t1 t2 hx hy hTO fun h2 e k q => ?_) (F.args_zip_next_1 _))))
  obtain ⟨o, ho, hc⟩ := q
  exact wpAny_bind (wpAny_isInstance (T := "StopIteration") (b := true) ⟨o, ho, hc⟩ isSubtype_stop (wpAny_pure (hQ _ k)))
end
/-- the tuples at a and b, of one length -/
def ItzS (K : PySem.W.Frag) (a b : Addr) : It :=
  ⟨fun i H => ∃ (xs ys : List V) (x y : V), SqT K H a xs ∧ SqT K H b ys ∧ xs[i]? = some x ∧ ys[i]? = some y, fun i H v H' => ∃ T x y, v = .ref T ∧ H T = none ∧ H' = upd H T (.tup [x, y]) ∧ (∀ xs, SqT K H a xs → xs[i]? = some x) ∧ ∀ ys, SqT K H b ys → ys[i]? = some y,
    fun i H => ∃ xs ys : List V, SqT K H a xs ∧ SqT K H b ys ∧ xs.length ≤ i ∧ ys.length ≤ i⟩
theorem turn_zipS {P : Program} {w : World} {K : PySem.W.Frag} {elts : List Expr} {kk : Nat} {tpos : Pos} {a b z TI TO i1 i2 : Addr} (D : ZipApart z TI TO i1 i2 a b) :
    Turn P w K (.Tuple elts kk tpos) (ItzS K a b) [z, TI, TO, i1, i2] z (fun i h => IsZs h z TI TO .none ∧ IsPair h TI (.ref i1) (.ref i2) ∧ (∃ x y, IsPair h TO x y) ∧ h.IsTupleIter i1 a i ∧ h.IsTupleIter i2 b i) where
  mem := by simp
  obj := fun i h st c hc => by
    obtain ⟨hz, hTI, ⟨x, y, hTO⟩, ⟨o1, e1, _, d1⟩, ⟨o2, e2, _, d2⟩⟩ := st
    simp only [List.mem_cons, List.not_mem_nil, or_false] at hc
    rcases hc with rfl | rfl | rfl | rfl | rfl
    · exact ⟨_, hz, fun v q => nomatch q⟩
    · exact ⟨_, hTI, fun v q => nomatch q⟩
    · exact ⟨_, hTO, fun v q => nomatch q⟩
    · exact ⟨o1, e1, fun v q => by rw [d1] at q; cases q⟩
    · exact ⟨o2, e2, fun v q => by rw [d2] at q; cases q⟩
  keep := fun i h h' st k => by
    obtain ⟨hz, hTI, ⟨x, y, hTO⟩, n1, n2⟩ := st
    exact ⟨k z (by simp) _ hz, k TI (by simp) _ hTI, ⟨x, y, k TO (by simp) _ hTO⟩, n1.at fun o q => k i1 (by simp) o q, n2.at fun o q => k i2 (by simp) o q⟩
  item := by
    intro X hP hw hK hc i pins s σ H E I hf st hg
    subst hP hw hK
    obtain ⟨hz, hTI, ⟨x0, y0, hTO⟩, n1, n2⟩ := st
    obtain ⟨xs, ys, x, y, hqx, hqy, hx, hy⟩ := hg
    obtain ⟨its, rv, t1, _⟩ := I.tuple hqx
    obtain ⟨its2, rv2, t2, _⟩ := I.tuple hqy
    obtain ⟨u, hu, ru⟩ := rv.get hx
    obtain ⟨u2, hu2, ru2⟩ := rv2.get hy
    have zl : z < s.heap.objs.size := Heap.lt_size hz
    have lts : ∀ c ∈ [z, TI, TO, i1, i2], c < s.heap.objs.size := fun c hcm => by
      simp only [List.mem_cons, List.not_mem_nil, or_false] at hcm
      rcases hcm with rfl | rfl | rfl | rfl | rfl
      · exact zl
      · exact Heap.lt_size hTI
      · exact Heap.lt_size hTO
      · obtain ⟨_, q, _⟩ := n1
        exact Heap.lt_size q
      · obtain ⟨_, q, _⟩ := n2
        exact Heap.lt_size q
    refine zs_pyNext D hz hTI hTO n1 n2 t1 t2 (x := u) (y := u2) (by simpa using hu) (by simpa using hu2) fun h2 z2 o2 m1 m2 hT hk => ?_
    refine ⟨_, rfl, zs_go (s := { s with heap := h2 }) z2 fun h3 z3 sb => ?_⟩
    have hT3 : h3.get? s.heap.objs.size = some { cls := .type "tuple", data := .seq #[u, u2] } := (sb.2 _ (Nat.ne_of_gt zl)).trans hT
    have nw : ObjOk X.prog X.w (upd H s.heap.objs.size (.tup [x, y])) h3 s.heap.objs.size (.tup [x, y]) := ⟨by show 2 ≤ sizeLine; decide, [u, u2], .cons ru (.cons ru2 .nil), ⟨_, hT3, rfl, _, rfl⟩⟩
    have I1 : Inv X pins σ (upd H s.heap.objs.size (.tup [x, y])) { s with heap := h3 } := by
      refine I.turnedNew (t' := s.toks) (ch := [z, TI, TO, i1, i2]) (fun c o hb q => ?_) hf (Nat.le_refl _) nw
      simp only [List.mem_cons, List.not_mem_nil, or_false, not_or] at hb
      exact (sb.2 c hb.1).trans (hk c o hb.1 hb.2.2.1 hb.2.2.2.1 hb.2.2.2.2 q)
    refine ⟨.ref s.heap.objs.size, _, I1, rfl, ⟨_, x, y, rfl, I.hok.fresh (Nat.le_refl _), rfl, fun l hl => by rw [I.tuple_inj hl hqx]; exact hx, fun l hl => by rw [I.tuple_inj hl hqy]; exact hy⟩, ⟨z3, ?_, ⟨u, u2, ?_⟩, ?_, ?_⟩, fun c hcm => ?_⟩
    · exact (sb.2 _ D.TIz).trans (hk _ _ D.TIz D.TITO D.TIi1 D.TIi2 hTI)
    · exact (sb.2 _ D.TOz).trans o2
    · exact m1.at fun o q => (sb.2 _ D.i1z).trans q
    · exact m2.at fun o q => (sb.2 _ D.i2z).trans q
    · rw [upd_ne (Nat.ne_of_lt (lts c hcm))]
      exact (hf c hcm).1
  done := by
    intro X hP hw hK hc i pins s σ H E I hf st hg
    subst hP hw hK
    obtain ⟨hz, hTI, ⟨x0, y0, hTO⟩, n1, n2⟩ := st
    obtain ⟨xs, ys, hqx, hqy, e1, e2⟩ := hg
    obtain ⟨its, rv, t1, _⟩ := I.tuple hqx
    obtain ⟨its2, rv2, t2, _⟩ := I.tuple hqy
    have l1 := rv.length
    have l2 := rv2.length
    refine zs_pyEnd (I.ok.hd hc) D hz hTI hTO n1 n2 t1 t2 (by simp; omega) (by simp; omega) fun h2 hk => ⟨rfl, ?_⟩
    refine I.turnedL (t' := s.toks) (ch := [z, TI, TO, i1, i2]) (fun c o hb q => ?_) hf
    simp only [List.mem_cons, List.not_mem_nil, or_false, not_or] at hb
    exact hk c o hb.1 hb.2.2.2.1 hb.2.2.2.2 q
  self := fun A i s Q E st h => zs_iter st.1 h
end DL
namespace DL
open PySem PySem.Spec PyProof.Rows L2
theorem cw_typeK {M : Model} {A : Around} {E : Value → Shared → Prop} {s : Shared} {env : Env} {pos : Pos} {T : String} {e : Expr} {rest : List Expr} {kws : List Keyword} {Q : Value → Shared → Prop}
    (h : wpAny M A (spliced (backTo pos (starEach (e :: rest) env))) (fun vs s1 => wpAny M A (evalAll ((backToKw pos (keywordEach kws env)).map (·.2))) (fun kvs s2 => wpAny M A (call (.type T) vs (((backToKw pos (keywordEach kws env)).filterMap (·.1)).zip kvs)) Q E s2) E s1) E s)
    (he : backTo pos (starEach (e :: rest) env) = (false, eval e env) :: backTo pos (starEach rest env)) (hpl : (backTo pos (starEach (e :: rest) env)).any (·.1) = false) (hall : (backToKw pos (keywordEach kws env)).all (·.1.isSome) = true) (hkw : (backToKw pos (keywordEach kws env)).any (·.1.isNone) = false) :
    wpAny M A (callWith pos (.type T) [] (backTo pos (starEach (e :: rest) env)) (backToKw pos (keywordEach kws env))) Q E s := by
  unfold callWith
  have h2 : wpAny M A (evalArgs (.type T) true (backTo pos (starEach (e :: rest) env)) (backToKw pos (keywordEach kws env))) (fun a s1 => wpAny M A (call (.type T) ([] ++ a.pos) a.kw) Q E s1) E s := by
    rw [he] at h ⊢
    exact evalArgs_kwB hall h
  refine wpAny_bind (wpAny_holding (wpAny_mono h2 (fun a s1 h1 => wpAny_bind (wpAny_standAt ?_)) fun _ _ x => x))
  simp only [hpl, hkw, Bool.or_false]
  exact wpAny_bind (wpAny_pure (wpAny_bind (wpAny_mono h1 (fun r s2 hr => wpAny_bind (wpAny_holding (wpAny_point (wpAny_pure hr)))) fun _ _ x => x)))
def iZipS (K : PySem.W.Frag) (ta : TA) : TI := fun σ H R => ta σ H fun vs H1 => ∃ a b xs ys, vs = [.ref a, .ref b] ∧ SqT K H1 a xs ∧ SqT K H1 b ys ∧ R (ItzS K a b) H1
theorem pi_zipS {X : Cx} {e e2 : Expr} {ta : TA} {p pos tpos kp kp2 : Pos} {elts : List Expr} {kk j : Nat} (hg : Gl X "zip") (hm : X.mg "zip" = none) (ha : PA X [e, e2] ta)
    (he : backTo pos (starEach [e, e2] X.env) = (false, eval e X.env) :: backTo pos (starEach [e2] X.env) := by rfl) (hpl : (backTo pos (starEach [e, e2] X.env)).any (·.1) = false := by rfl) :
    PI X (.Tuple elts kk tpos) (.Call (.Name "zip" p) [e, e2] [⟨some "strict", .Constant (.bool true) j kp, kp2⟩] pos) (iZipS X.K ta) := by
  refine ⟨fun pins s σ H R I h => ?_⟩
  refine wpAny_Call_Name_kw (ld_blt I hg hm boot_zip ?_)
  refine cw_typeK (thn (ha.run pos pins s σ H _ I h) fun us s1 ⟨vs, H1, I1, r1, q1⟩ => ?_) he hpl rfl rfl
  have hk : PK X [⟨some "strict", .Constant (.bool true) j kp, kp2⟩] (tCons (tC (.bl true)) tNil) := pk_cons pe_bl pk_nil
  refine thn (hk.run pos pins s1 σ H1 (fun zs H2 => zs = [.bl true] ∧ H2 = H1) I1 ⟨rfl, rfl⟩) fun ws s2 ⟨zs, H2, I2, r2, q2⟩ => ?_
  obtain ⟨rfl, rfl⟩ := q2
  obtain ⟨u, rfl, ru⟩ := r2.one
  cases ru
  obtain ⟨a, b, xs, ys, rfl, hqx, hqy, q⟩ := q1
  cases r1 with
  | cons ra rr =>
    cases rr with
    | cons rb rr =>
      cases rr
      cases ra
      cases rb
      obtain ⟨its, rv, t1, _⟩ := I2.tuple hqx
      obtain ⟨its2, rv2, t2, _⟩ := I2.tuple hqy
      have la : a < s2.heap.objs.size := by
        obtain ⟨o, ho, _⟩ := t1
        exact Heap.lt_size ho
      have lb : b < s2.heap.objs.size := by
        obtain ⟨o, ho, _⟩ := t2
        exact Heap.lt_size ho
      show wpAny _ _ (call (.type "zip") [.ref a, .ref b] kwS) _ _ _
      refine zs_call t1 t2 ?_
      have z1 : (zsH1 s2.heap a).objs.size = s2.heap.objs.size + 1 := Heap.size_push ..
      have z2 : (zsH2 s2.heap a b).objs.size = s2.heap.objs.size + 2 := by rw [Heap.size_push, z1]
      have z3 : (zsH3 s2.heap a b).objs.size = s2.heap.objs.size + 3 := by rw [Heap.size_push, z2]
      have z4 : (zsH4 s2.heap a b).objs.size = s2.heap.objs.size + 4 := by rw [Heap.size_push, z3]
      have g5 : IsZs (zsH5 s2.heap a b) (zsH4 s2.heap a b).objs.size (zsH2 s2.heap a b).objs.size (zsH3 s2.heap a b).objs.size .none := Heap.get?_push_size _ rfl
      have g4 : IsPair (zsH5 s2.heap a b) (zsH3 s2.heap a b).objs.size .none .none := Heap.get?_push_of_some _ (Heap.get?_push_size _ rfl)
      have g3 : IsPair (zsH5 s2.heap a b) (zsH2 s2.heap a b).objs.size (.ref s2.heap.objs.size) (.ref (zsH1 s2.heap a).objs.size) := Heap.get?_push_of_some _ (Heap.get?_push_of_some _ (Heap.get?_push_size _ rfl))
      have g2 : (zsH5 s2.heap a b).IsTupleIter (zsH1 s2.heap a).objs.size b 0 := ⟨_, Heap.get?_push_of_some _ (Heap.get?_push_of_some _ (Heap.get?_push_of_some _ (Heap.get?_push_size _ rfl))), rfl, rfl⟩
      have g1 : (zsH5 s2.heap a b).IsTupleIter s2.heap.objs.size a 0 := ⟨_, Heap.get?_push_of_some _ (Heap.get?_push_of_some _ (Heap.get?_push_of_some _ (Heap.get?_push_of_some _ (Heap.get?_push_size _ rfl)))), rfl, rfl⟩
      have kp5 : ∀ c o, s2.heap.get? c = some o → (zsH5 s2.heap a b).get? c = some o := fun c o q => Heap.get?_push_of_some _ (Heap.get?_push_of_some _ (Heap.get?_push_of_some _ (Heap.get?_push_of_some _ (Heap.get?_push_of_some _ q))))
      rw [z2, z3, z4] at g5
      rw [z3] at g4
      rw [z2, z1] at g3
      rw [z1] at g2
      rw [z4]
      refine zs_iter g5 ?_
      have I3 : Inv X pins σ H2 { s2 with heap := zsH5 s2.heap a b } := I2.kept (t' := s2.toks) kp5
      refine ⟨s2.heap.objs.size + 4, [s2.heap.objs.size + 4, s2.heap.objs.size + 2, s2.heap.objs.size + 3, s2.heap.objs.size, s2.heap.objs.size + 1], _, _, H2, rfl, I3, turn_zipS (PySem.W.ktu_apart s2.heap.objs.size a b la lb), ⟨g5, g3, ⟨_, _, g4⟩, g1, g2⟩, fun c hcm => ?_, q⟩
      have le : s2.heap.objs.size ≤ c := by
        simp only [List.mem_cons, List.not_mem_nil, or_false] at hcm
        rcases hcm with rfl | rfl | rfl | rfl | rfl
        · exact Nat.le_add_right _ _
        · exact Nat.le_add_right _ _
        · exact Nat.le_add_right _ _
        · exact Nat.le_refl _
        · exact Nat.le_add_right _ _
      exact I2.fpOk le (I2.hok.fresh le)
/-! ### zip at the level of data -/
def zipD (xs ys : List D) : List D := List.zipWith (fun x y => .tuple [x, y]) xs ys
theorem zipD_get {xs ys : List D} {i : Nat} {v : D} (h : (zipD xs ys)[i]? = some v) : ∃ x y, xs[i]? = some x ∧ ys[i]? = some y ∧ v = .tuple [x, y] := by
  unfold zipD at h
  rw [List.getElem?_zipWith] at h
  cases hx : xs[i]? with
  | none => rw [hx] at h; cases h
  | some x =>
    cases hy : ys[i]? with
    | none => rw [hx, hy] at h; cases h
    | some y =>
      rw [hx, hy] at h
      exact ⟨x, y, rfl, rfl, (Option.some.inj h).symm⟩
theorem itd_zipS {K : PySem.W.Frag} {G : Hp} {a b : Addr} {us ws : List V} {xs ys : List D} (h1 : SqT K G a us) (h2 : DrAll K G us xs) (k1 : SqT K G b ws) (k2 : DrAll K G ws ys) (hl : xs.length = ys.length) : ItD K G (ItzS K a b) (zipD xs ys) := fun G1 H1 s1 s2 i => by
  have q := same_sqT (s1.trans s2) h1
  have r := same_sqT (s1.trans s2) k1
  refine ⟨fun v hv => ?_, fun hle => ?_⟩
  · obtain ⟨x, y, hx, hy, rfl⟩ := zipD_get hv
    obtain ⟨u, eu, du⟩ := dpAll_get h2 hx
    obtain ⟨t, et, dt⟩ := dpAll_get k2 hy
    refine ⟨⟨us, ws, u, t, q, r, eu, et⟩, fun v2 H2 z => ?_⟩
    obtain ⟨T, x2, y2, rfl, hT, rfl, z1, z2⟩ := z
    have e1 := z1 us q
    have e2 := z2 ws r
    rw [eu] at e1
    rw [et] at e2
    cases e1
    cases e2
    have sg := s1.trans (same_upd (o := .tup [u, t]) (s2.free hT))
    exact ⟨_, Grow.new1 s2 hT, .tup (SqT.of upd_same) (.cons (dp_same sg du) (.cons (dp_same sg dt) .nil))⟩
  · unfold zipD at hle
    rw [List.length_zipWith] at hle
    exact ⟨us, ws, q, r, by rw [dpAll_len h2]; omega, by rw [dpAll_len k2]; omega⟩
theorem itd_zipT {K : PySem.W.Frag} {G : Hp} {a b : Addr} {us ws : List V} {xs ys : List D} (h1 : SqT K G a us) (h2 : DrAll K G us xs) (k1 : SqT K G b ws) (k2 : DrAll K G ws ys) : ItD K G (RZ.ItzT K a b) (zipD xs ys) := fun G1 H1 s1 s2 i => by
  have q := same_sqT (s1.trans s2) h1
  have r := same_sqT (s1.trans s2) k1
  refine ⟨fun v hv => ?_, fun hle => ?_⟩
  · obtain ⟨x, y, hx, hy, rfl⟩ := zipD_get hv
    obtain ⟨u, eu, du⟩ := dpAll_get h2 hx
    obtain ⟨t, et, dt⟩ := dpAll_get k2 hy
    refine ⟨⟨us, ws, u, t, q, r, eu, et⟩, fun v2 H2 z => ?_⟩
    obtain ⟨T, x2, y2, rfl, hT, rfl, z1, z2⟩ := z
    have e1 := z1 us q
    have e2 := z2 ws r
    rw [eu] at e1
    rw [et] at e2
    cases e1
    cases e2
    have sg := s1.trans (same_upd (o := .tup [u, t]) (s2.free hT))
    exact ⟨_, Grow.new1 s2 hT, .tup (SqT.of upd_same) (.cons (dp_same sg du) (.cons (dp_same sg dt) .nil))⟩
  · unfold zipD at hle
    rw [List.length_zipWith] at hle
    refine ⟨us, ws, q, r, ?_⟩
    rw [dpAll_len h2, dpAll_len k2]
    omega
def miZipS (a : MA) : MI := fun env P => a env fun as e1 => match as with
  | [.d (.tuple xs), .d (.tuple ys)] => xs.length = ys.length ∧ P (zipD xs ys) e1
  | _ => False
def miZipT (a : MA) : MI := fun env P => a env fun as e1 => match as with
  | [.d (.tuple xs), .d (.tuple ys)] => P (zipD xs ys) e1
  | _ => False
section
variable {X : Cx} {e e2 : Expr} {m1 : MA} {n1 : Nat} {p pos tpos kp kp2 : Pos} {elts : List Expr} {kk j : Nat}
theorem gi_zipS (hg : Gl X "zip") (hm : X.mg "zip" = none) (ha : GA X [e, e2] n1 m1) (he : backTo pos (starEach [e, e2] X.env) = (false, eval e X.env) :: backTo pos (starEach [e2] X.env) := by rfl) (hpl : (backTo pos (starEach [e, e2] X.env)).any (·.1) = false := by rfl) :
    GI X (.Tuple elts kk tpos) (.Call (.Name "zip" p) [e, e2] [⟨some "strict", .Constant (.bool true) j kp, kp2⟩] pos) n1 (miZipS m1) := pi_imp (pi_zipS hg hm ha he hpl) fun σ H R h => by
  obtain ⟨W, B, G0, H0, G, env, P, Rl, hm1, q⟩ := h
  refine ⟨W, B, G0, H0, G, env, _, Rl, hm1, fun as e1 us G1 H1 p1 s1 R1 a1 => ?_⟩
  split at p1
  · cases a1 with
    | cons x1 y1 =>
      cases y1 with
      | cons y1 z1 =>
        cases z1
        obtain ⟨a, ws, rfl, h1, h2⟩ := dp_tup x1
        obtain ⟨b, vs, rfl, k1, k2⟩ := dp_tup y1
        exact ⟨a, b, ws, vs, rfl, same_sqT R1.pub h1, same_sqT R1.pub k1, q _ _ _ _ _ p1.2 s1 R1 (itd_zipS h1 h2 k1 k2 p1.1)⟩
  · exact p1.elim
theorem gi_zipT (hg : Gl X "zip") (hm : X.mg "zip" = none) (ha : GA X [e, e2] n1 m1) (hs : starEach [e, e2] X.env = (false, eval e X.env) :: starEach [e2] X.env := by rfl) (hpl : (backTo pos (starEach [e2] X.env)).any (·.1) = false := by rfl) :
    GI X (.Tuple elts kk tpos) (.Call (.Name "zip" p) [e, e2] [] pos) n1 (miZipT m1) := pi_imp (RZ.pi_zipA hg hm ha hs hpl) fun σ H R h => by
  obtain ⟨W, B, G0, H0, G, env, P, Rl, hm1, q⟩ := h
  refine ⟨W, B, G0, H0, G, env, _, Rl, hm1, fun as e1 us G1 H1 p1 s1 R1 a1 => ?_⟩
  split at p1
  · cases a1 with
    | cons x1 y1 =>
      cases y1 with
      | cons y1 z1 =>
        cases z1
        obtain ⟨a, ws, rfl, h1, h2⟩ := dp_tup x1
        obtain ⟨b, vs, rfl, k1, k2⟩ := dp_tup y1
        exact ⟨a, b, ws, vs, rfl, .inr ⟨same_sqT R1.pub h1, same_sqT R1.pub k1, q _ _ _ _ _ p1 s1 R1 (itd_zipT h1 h2 k1 k2)⟩⟩
  · exact p1.elim
end
end DL
namespace DL
open PySem PySem.Spec PyProof.Rows L2
/-! ### a built-in with keywords -/
def rDCK (K : PySem.W.Frag) (f : List D → List D → (D → Prop) → Prop) : List V → List V → Hp → VK → Prop := fun xs zs H Q => ∃ (G : Hp) (ds es : List D) (P : D → Prop), Same G H ∧ DrAll K G xs ds ∧ DrAll K G zs es ∧ f ds es P ∧ ∀ z v G' H', P z → Grow G H G' H' → Dr K G' v z → Q v H'
def mCBK (f : List D → List D → (D → Prop) → Prop) (a k : MA) : ME := fun env P => a env fun as e1 => mDats as fun ds => k e1 fun ks e2 => mDats ks fun es => f ds es fun z => P z e2
def dMaxK : List D → List D → (D → Prop) → Prop
  | [.list []], [d], P => P d
  | [.list (x :: xs)], [_], P => (PySem.W.AlikeAll (x :: xs) ∧ noDicts (x :: xs) = true ∧ PyData.depthAll (x :: xs) ≤ 60) ∧ P (PySem.W.maxD x xs)
  | _, _, _ => False
section
variable {X : Cx} {x : Str} {p pos : Pos} {e : Expr} {es : List Expr} {kws : List Keyword} {id : String} {ks : List Str} {m1 mk : MA} {n1 nk : Nat} {f : List D → List D → (D → Prop) → Prop}
theorem ge_callBK (hc : CallRK X (.builtin id) ks (rDCK X.K f)) (hg : Gl X x) (hm : X.mg x = none) (hv : bootBuiltins x = some (.builtin id)) (ha : GA X (e :: es) n1 m1) (hk : GK X kws nk mk) (hn : x ≠ "__name__" := by decide) (hdb : (x == ("__debug__" : Str)) = false := by decide)
    (he : backTo pos (starEach (e :: es) X.env) = (false, eval e X.env) :: backTo pos (starEach es X.env) := by rfl) (hpl : (backTo pos (starEach (e :: es) X.env)).any (·.1) = false := by rfl)
    (hall : (backToKw pos (keywordEach kws X.env)).all (·.1.isSome) = true := by rfl) (hnone : (backToKw pos (keywordEach kws X.env)).any (·.1.isNone) = false := by rfl) (hks : (backToKw pos (keywordEach kws X.env)).filterMap (·.1) = ks := by rfl) :
    GE X (.Call (.Name x p) (e :: es) kws pos) (n1 + nk) (mCBK f m1 mk) := pe_imp (pe_callBK hc hg hm hv ha hk hn hdb he hpl hall hnone hks) fun σ H Q h => by
  obtain ⟨W, B, G0, H0, G, env, P, R, hm, q⟩ := h
  refine ⟨W, B + nk, G0, H0, G, env, _, R.le (by omega), hm, fun as e1 us G1 H1 p1 s1 R1 a1 => ?_⟩
  obtain ⟨ds, hd, p1⟩ := mDats_ok p1
  have da := dats_ok a1 hd
  refine ⟨W, B, G0, H0, G1, e1, _, R1, p1, fun as2 e2 us2 G2 H2 p2 s2 R2 a2 => ?_⟩
  obtain ⟨es2, hd2, p2⟩ := mDats_ok p2
  have da2 := dats_ok a2 hd2
  exact ⟨G2, ds, es2, _, R2.pub, dpAll_same s2 da, da2, p2, fun z v G3 H3 p3 g3 d3 => q z e2 v G3 H3 p3 ((s1.trans s2).trans g3.eg) (R2.grow g3) d3⟩
theorem cd_maxK (hc : X.calm = true) (hu : X.A.units + 64 < cLine) : CallRK X (.builtin "max") ["default"] (rDCK X.K dMaxK) := by
  intro pins s σ H xs zs us ws Q I r r2 h
  obtain ⟨G, ds, es, P, sG, da, da2, hf, q⟩ := h
  unfold dMaxK at hf
  split at hf
  · obtain ⟨v, rfl, d⟩ := all1 da
    obtain ⟨v2, rfl, d2⟩ := all1 da2
    obtain ⟨a, vs, rfl, h1, h2⟩ := dp_lst d
    obtain ⟨u, rfl, r1⟩ := vals1 r
    obtain ⟨u2, rfl, r3⟩ := vals1 r2
    cases r1
    cases h2
    obtain ⟨its, rv, pl, hz⟩ := I.list (SqL.of (sG _ _ h1))
    cases rv
    refine PySem.W.max_list_default (I.ok.hd hc) pl.isList (xs := []) (as := []) .nil ⟨(fun x hx => by cases hx), (fun x hx => by cases hx)⟩ (by simp only [PyData.depthAll]; omega) (fun _ h' tk hk => ?_) (fun y ys i v h' tk bs e => by cases e)
    exact ⟨_, H, I.kept hk, r3, q _ _ G H hf (Grow.refl sG) d2⟩
  · rename_i x ys d0
    obtain ⟨v, rfl, d⟩ := all1 da
    obtain ⟨v2, rfl, d2⟩ := all1 da2
    obtain ⟨a, vs, rfl, h1, h2⟩ := dp_lst d
    obtain ⟨⟨ha, hn, hd⟩, hP⟩ := hf
    obtain ⟨u, rfl, r1⟩ := vals1 r
    obtain ⟨u2, rfl, r3⟩ := vals1 r2
    cases r1
    obtain ⟨its, rv, pl, hz⟩ := I.list (SqL.of (sG _ _ h1))
    have dp : DpAll X.K H vs (x :: ys) := drAll_dp (dpAll_same sG h2) hn
    obtain ⟨as, rd⟩ := Dp.readsAll I (x :: ys) vs its dp rv
    refine PySem.W.max_list_default (I.ok.hd hc) pl.isList (by simpa using rd) ha (by omega) (fun z => by cases z) (fun y zs i v h' tk bs e hv hr hk => ?_)
    cases e
    have hv' : its[i]? = some v := by simpa using hv
    have I' : Inv X pins σ H { s with heap := h', toks := tk } := I.kept hk
    have il : i < vs.length := by
      rw [rv.length]
      exact (List.getElem?_eq_some_iff.mp hv').1
    have hw : vs[i]? = some vs[i] := List.getElem?_eq_getElem il
    obtain ⟨z, hz2, dz⟩ := dpAll_getV h2 hw
    obtain ⟨u3, hu3, ru⟩ := rv.get hw
    rw [hv'] at hu3
    cases hu3
    have nz : noDict z = true := cd_max.noDicts_mem hn (List.mem_of_getElem? hz2)
    obtain ⟨bs2, rd2⟩ := Dp.reads I' z _ _ (dr_dp (dp_same sG dz) nz) ru
    have e : z = PySem.W.maxD x ys := (Reads.unique rd2 _ _ hr).1
    subst e
    exact ⟨_, H, I', ru, q _ _ G H hP (Grow.refl sG) dz⟩
  · exact hf.elim
end
end DL
namespace DL
open PySem PySem.Spec PyProof.Rows L2
/-! ### a dict displayed, with texts as keys -/
abbrev Ent := Str × Nat × ME
def dispT (K : PySem.W.Frag) (ms : List Ent) : List (TE × TE) := ms.map fun t => (tC (.str t.1), tD K t.2.1 t.2.2)
def dispN : List Ent → Nat
  | [] => 0
  | t :: r => t.2.1 + dispN r
def mKvs : List Ent → DEnv → (List (Str × D) → DEnv → Prop) → Prop
  | [], env, P => P [] env
  | t :: r, env, P => t.2.2 env fun x e1 => mKvs r e1 fun kvs e2 => P ((t.1, x) :: kvs) e2
def kvD (kvs : List (Str × D)) : List (D × D) := kvs.map fun p => (.str p.1, p.2)
def mDict (ms : List Ent) : ME := fun env P => mKvs ms env fun kvs e1 => P (.dict (kvD kvs)) e1
section
variable {K : PySem.W.Frag} {W : Wd} {G0 H0 : Hp} {σ : L2.St}
theorem drkv_same {G G' : Hp} (s : Same G G') : ∀ {vs : List (Key × V)} {ds : List (D × D)}, DrKv K G vs ds → DrKv K G' vs ds := fun h => dpKv_same s h
theorem pairs_ok : ∀ (ms : List Ent) (B : Nat) (G H : Hp) (env : DEnv) (P : List (Str × D) → DEnv → Prop) (Q : List (V × V) → Hp → Prop), Rel K W (B + dispN ms) G0 H0 G env σ H → mKvs ms env P →
    (∀ kvs env' G' H' (vs : List (Key × V)), P kvs env' → Same G G' → Rel K W B G0 H0 G' env' σ H' → DrKv K G' vs (kvD kvs) → vs.map (·.1) = ms.map (fun t => Sum.inr t.1) → Q (vs.map fun p => (kV p.1, p.2)) H') → tPairs (dispT K ms) σ H Q
  | [], B, G, H, env, P, Q, R, hm, q => q [] env G H [] hm (Same.refl _) R .nil rfl
  | t :: r, B, G, H, env, P, Q, R, hm, q => by
    have e : B + dispN (t :: r) = (B + dispN r) + t.2.1 := by
      rw [dispN]
      omega
    rw [e] at R
    refine ⟨W, B + dispN r, G0, H0, G, env, _, R, hm, fun x e1 v G1 H1 p1 s1 R1 d1 => ?_⟩
    refine pairs_ok r B G1 H1 e1 _ _ R1 p1 fun kvs e2 G2 H2 vs p2 s2 R2 dv hk => ?_
    exact q ((t.1, x) :: kvs) e2 G2 H2 ((Sum.inr t.1, v) :: vs) p2 (s1.trans s2) R2 (.cons (dp_same s2 d1) dv) (by rw [List.map_cons, List.map_cons, hk])
/-- an object of one's own is written and published -/
theorem Rel.pubO {B : Nat} {G H : Hp} {env : DEnv} {p : Addr} {o : HO} (R : Rel K W B G0 H0 G env σ H) (hg : G p = none) (h0 : H0 p = none) (hm : ¬ W.mu p) (ho : ∀ (i : Nat) l w c, env[i]? = some (.mo w c) → σ[i]? = some (some (.ref l)) → l ≠ p) :
    Rel K W B G0 H0 (upd G p o) env σ (upd H p o) := by
  have sg : Same G (upd G p o) := same_upd hg
  refine { g0 := R.g0.trans sg, pub := fun a u e => ?_, gm := fun a m => ?_, inv := W.loc _ H _ (fun a m => ?_) R.inv, fr := fun a u e m => ?_, pn := fun a u e e0 => ?_, len := R.len, slot := fun i e s h1 h2 => ?_, dis := R.dis }
  · by_cases z : a = p
    · subst z
      rw [upd_same] at e ⊢
      exact e
    · rw [upd_ne z] at e ⊢
      exact R.pub a u e
  · have z : a ≠ p := fun z => hm (z ▸ m)
    rw [upd_ne z]
    exact R.gm a m
  · have z : a ≠ p := fun z => hm (z ▸ m)
    rw [upd_ne z]
  · have z : a ≠ p := fun z => by
      subst z
      rw [h0] at e
      cases e
    rw [upd_ne z]
    exact R.fr a u e m
  · by_cases z : a = p
    · subst z
      exact h0
    · rw [upd_ne z] at e
      exact R.pn a u e e0
  · have q := R.slot i e s h1 h2
    cases e with
    | un => trivial
    | d x =>
      obtain ⟨v, e1, q1⟩ := q
      exact ⟨v, e1, dp_same sg q1⟩
    | mo w c =>
      obtain ⟨l, e1, n1, o1, q1⟩ := q
      subst e1
      have z : l ≠ p := ho i l w c h1 h2
      exact ⟨l, rfl, by rw [upd_ne z]; exact n1, o1, scok_later sg (fun u hu => by rw [upd_ne z]; exact hu) q1⟩
    | hd => exact q
    | «at» _ => trivial
end
end DL
namespace DL
open PySem PySem.Spec PyProof.Rows L2
theorem val_none {kvs : List (Key × V)} {k : Key} (h : k ∉ kvs.map (·.1)) : valV kvs k = none := by
  unfold valV
  rw [List.find?_eq_none.mpr fun p hp => ?_]
  · rfl
  · simp only [decide_eq_true_eq]
    exact fun z => h (z ▸ List.mem_map_of_mem hp)
theorem merge_new : ∀ (more kvs : List (Key × V)), ((kvs ++ more).map (·.1)).Nodup → mergeK kvs more = kvs ++ more
  | [], kvs, _ => by simp [mergeK]
  | m :: r, kvs, h => by
    have hn : m.1 ∉ kvs.map (·.1) := fun hm => by
      rw [List.map_append] at h
      exact (List.nodup_append.mp h).2.2 m.1 hm m.1 (by simp) rfl
    show mergeK (putK kvs m.1 m.2) r = _
    rw [putK_new m.2 (val_none hn), merge_new r (kvs ++ [(m.1, m.2)]) (by rw [List.append_assoc]; exact h), List.append_assoc]
    rfl
section
variable {X : Cx} {pos : Pos} {keys : List (Option Expr)} {values : List Expr}
theorem ge_disp (ms : List Ent) (h : PPs X pos keys values (dispT X.K ms)) (hall : keys.all (·.isSome) = true) (hl : keys.length = values.length) (h0 : keys ≠ []) (h15 : keys.length ≤ 15) (nd : (ms.map (·.1)).Nodup) (hk : ms.length ≤ 15) :
    GE X (.Dict keys values pos) (dispN ms) (mDict ms) := pe_imp (pe_disp h hall hl h0 h15) fun σ H Q h => by
  obtain ⟨W, B, G0, H0, G, env, P, R, hm, q⟩ := h
  intro p hp
  obtain ⟨R1, f1, f2, f3, f4⟩ := R.fresh (o := .dK []) hp
  have R2 := R1.guard upd_same f1 f4
  have g0 : G0 p = none := R.g0.free f1
  refine pairs_ok ms B G _ env _ _ R2 hm fun kvs e1 G1 H1 vs p1 s1 R3 dv ek => ?_
  obtain ⟨R4, hp4, gp4, ho4⟩ := R3.unguard f3 g0 f2
  have vl : vs.length = ms.length := by
    have := congrArg List.length ek
    simpa using this
  refine ⟨hp4, vs, rfl, by omega, ?_⟩
  have em : mergeK [] vs = vs := by
    refine merge_new vs [] ?_
    rw [List.nil_append, ek]
    have e2 : (ms.map fun t => (Sum.inr t.1 : Key)) = (ms.map (·.1)).map Sum.inr := by
      rw [List.map_map]
      rfl
    rw [e2]
    exact List.Pairwise.map _ (fun a b z w => z (Sum.inr.inj w)) nd
  rw [em]
  have sg : Same G1 (upd G1 p (.dK vs)) := same_upd gp4
  exact q _ e1 _ _ _ p1 (s1.trans sg) (R4.pubO gp4 f2 f3 ho4) (.dic upd_same (drkv_same sg dv))
/-- d.get(k, x) -/
def getD : List (D × D) → Str → Option D
  | [], _ => none
  | (.str z, v) :: r, k => if z = k then some v else getD r k
  | _ :: r, k => getD r k
def fGet : D → List D → (D → Prop) → Prop
  | .dict kvs, [.str k, d], P => P ((getD kvs k).getD d)
  | _, _, _ => False
theorem get_v {K : PySem.W.Frag} {G : Hp} (k : Str) : ∀ {vs : List (Key × V)} {ds : List (D × D)}, DrKv K G vs ds → (∃ v d, valV vs (Sum.inr k) = some v ∧ getD ds k = some d ∧ Dr K G v d) ∨ (valV vs (Sum.inr k) = none ∧ getD ds k = none)
  | _, _, .nil => .inr ⟨rfl, rfl⟩
  | _, _, .cons (k := .inl i) (v := v) (vs := vs) (d := d) (ds := ds) a r => by
    have e1 : valV ((Sum.inl i, v) :: vs) (Sum.inr k) = valV vs (Sum.inr k) := by
      unfold valV
      rw [List.find?_cons_of_neg (by simp)]
    have e2 : getD ((keyD (.inl i), d) :: ds) k = getD ds k := rfl
    rw [e1, e2]
    exact get_v k r
  | _, _, .cons (k := .inr z) (v := v) (vs := vs) (d := d) (ds := ds) a r => by
    by_cases h : z = k
    · subst h
      refine .inl ⟨v, d, ?_, ?_, a⟩
      · exact valV_pos rfl
      · show (if z = z then some d else _) = _
        rw [if_pos rfl]
    · have e1 : valV ((Sum.inr z, v) :: vs) (Sum.inr k) = valV vs (Sum.inr k) := by
        unfold valV
        rw [List.find?_cons_of_neg (by simp [h])]
      have e2 : getD ((keyD (.inr z), d) :: ds) k = getD ds k := by
        show (if z = k then some d else getD ds k) = _
        rw [if_neg h]
      rw [e1, e2]
      exact get_v k r
theorem md_get (hu : X.A.units + 64 < cLine) : MtR X "dict.get" (rDM X.K fGet) := by
  intro pins s σ H x xs v us Q I rx rs h
  obtain ⟨G, d, ds, P, sG, dd, da, hf, q⟩ := h
  unfold fGet at hf
  split at hf
  · rename_i kvs k d0
    obtain ⟨a, vs, rfl, h1, h2⟩ := dp_dic dd
    obtain ⟨u1, u2, rfl, d1, d2⟩ := all2 da
    cases dp_str d1
    cases rx
    cases rs with
    | cons r1 rr =>
      cases rr with
      | cons r2 rr =>
        cases rr
        refine d_get2 (by omega) I (DGet.k (k := Sum.inr k) (sG _ _ h1)) r1 r2 fun w s' I' rw' => ?_
        rcases get_v k h2 with ⟨w1, e1, g1, g2, g3⟩ | ⟨g1, g2⟩
        · rw [g1] at rw'
          rw [g2] at hf
          exact ⟨_, H, I', rw', q _ _ G H hf (Grow.refl sG) g3⟩
        · rw [g1] at rw'
          rw [g2] at hf
          exact ⟨_, H, I', rw', q _ _ G H hf (Grow.refl sG) d2⟩
  · exact hf.elim
end
end DL
namespace DL
open PySem PySem.Spec PyProof.Rows L2
/-! ### calls with keywords, in any order, with defaults that fill up -/
structure CalN (P : Program) (w : World) (K : PySem.W.Frag) (mg : Str → Option Value) (base : Heap) (x : Str) (k n : Nat) (ks : List Str) (c : Nat) (gE : List EV → List EV → List EV) (sp : List EV → (D → Prop) → Prop) : Prop where
  ex : ∃ (f : Addr) (fd : FuncData) (ps : List Str) (g : List Value → List Value → List Value) (gV : List V → List V → List V), FnG P w K mg base CX0 k f fd ps (spD K c sp) ∧ mg x = some (.ref f) ∧ PySem.W.keepIn K (.ref f) = true ∧ KBn K fd ps n ks g gV ∧
    ∀ (W : Wk) (G : Hp) (vs zs : List V) (as bs : List EV), ArgsOk K W G vs as → ArgsOk K W G zs bs → as.length = n → bs.length = ks.length → ArgsOk K W G (gV vs zs) (gE as bs)
def mCallN (n m : Nat) (gE : List EV → List EV → List EV) (sp : List EV → (D → Prop) → Prop) (a k : MA) : ME := fun env P => a env fun as e1 => k e1 fun bs e2 => as.length = n ∧ bs.length = m ∧ sp (gE as bs) fun z => P z e2
section
variable {X : Cx} {k n c : Nat} {ks : List Str} {gE : List EV → List EV → List EV} {sp : List EV → (D → Prop) → Prop} {x : Str} {p pos : Pos} {e : Expr} {es : List Expr} {kws : List Keyword} {m1 m2 : MA} {n1 n2 : Nat}
theorem runN {f : Addr} {fd : FuncData} {ps : List Str} {g : List Value → List Value → List Value} {gV : List V → List V → List V} {pins : List (Addr × Obj)} {σ : L2.St} {H : Hp} {s : Shared} {Q : VK} {us ws : List Value} {vs zs : List V} {spv : Sp} (F : FnG X.prog X.w X.K X.mg X.base CX0 k f fd ps spv) (r : Rm k X.A) (hb : KBn X.K fd ps n ks g gV)
    (I : Inv X pins σ H s) (r1 : Vals vs us) (r2 : Vals zs ws) (l1 : vs.length = n) (l2 : zs.length = ks.length) (h : spv (gV vs zs) H Q E0) : wpAny (model X.prog X.w) X.A (call (.ref f) us (ks.zip ws)) (EP X pins σ Q) X.xe s := by
  have run := F.run X.A X.stack s H ⟨us, ks.zip ws⟩ (g us ws) (gV vs zs) Q E0 r I.env0 (hb.to s us ws I.kIn (r1.length.symm.trans l1) (r2.length.symm.trans l2)) (hb.rel r1 r2) h
  refine wpAny_call (codeAny_mono run fun res s' z => ?_)
  rcases res with err | fl
  · exact z.elim
  · cases fl with
    | ret u => exact I.after z
    | next => exact z.elim
    | brk => exact z.elim
    | cont => exact z.elim
theorem ge_calN (C : CalN X.prog X.w X.K X.mg X.base x k n ks c gE sp) (r : Rm k X.A) (hg : Gl X x) (ha : GA X (e :: es) n1 m1) (hkw : GK X kws n2 m2)
    (hall : (backToKw pos (keywordEach kws X.env)).all (·.1.isSome) = true := by rfl) (hks : (backToKw pos (keywordEach kws X.env)).filterMap (·.1) = ks := by rfl) (hdb : (x == ("__debug__" : Str)) = false := by decide)
    (he : starEach (e :: es) X.env = (false, eval e X.env) :: starEach es X.env := by rfl) (hpl : ((backTo pos (starEach (e :: es) X.env)).any (·.1) || (backToKw pos (keywordEach kws X.env)).any (·.1.isNone)) = false := by rfl) :
    GE X (.Call (.Name x p) (e :: es) kws pos) (n1 + (n2 + c)) (mCallN n ks.length gE sp m1 m2) := by
  obtain ⟨f, fd, ps, g, gV, F, hm, hk, hb, hA⟩ := C.ex
  refine ⟨fun pins s σ H Q I h => wpAny_Call_Name_kw (ld_glob I hg hm ?_ hdb)⟩
  have h1 : tA X.K n1 m1 σ H fun vs H1 => tA X.K n2 m2 σ H1 fun zs H2 => vs.length = n ∧ zs.length = ks.length ∧ spD X.K c sp (gV vs zs) H2 Q E0 := by
    obtain ⟨W, B, G0, H0, G, env, P, R, hm, q⟩ := h
    refine ⟨W, B + (n2 + c), G0, H0, G, env, _, R.le (by omega), hm, fun as e1 vs G1 H1 p1 s1 R1 a1 => ?_⟩
    refine ⟨W, B + c, G0, H0, G1, e1, _, R1.le (by omega), p1, fun bs e2 zs G2 H2 p2 s2 R2 a2 => ?_⟩
    obtain ⟨l1, l2, p3⟩ := p2
    refine ⟨by rw [args_len a1]; exact l1, by rw [args_len a2]; exact l2, W.dk, B, G2, _, _, R2.toRW.self0, hA W.dk G2 vs zs as bs (args_same s2 a1) a2 l1 l2, p3, fun x v G3 H3 p4 r3 d3 => q x e2 v G3 H3 p4 ((s1.trans s2).trans r3.g0) (R2.after r3) d3⟩
  refine PySem.W.callWith_KW (h₀ := X.base) I.ok.mod.kin hk hall (thn (ha.run pos pins s σ H _ I h1) fun us s1 ⟨vs, H1, I1, rv, q⟩ => ?_) hpl he
  refine thn (hkw.run pos pins s1 σ H1 _ I1 q) fun ws s2 ⟨zs, H2, I2, rz, l1, l2, q2⟩ => ⟨I2.kIn, ?_⟩
  rw [hks]
  exact runN F r hb I2 rv rz l1 l2 q2
theorem ge_calN0 (C : CalN X.prog X.w X.K X.mg X.base x k 0 ks c gE sp) (r : Rm k X.A) (hg : Gl X x) (hkw : GK X kws n2 m2)
    (hall : (backToKw pos (keywordEach kws X.env)).all (·.1.isSome) = true := by rfl) (hks : (backToKw pos (keywordEach kws X.env)).filterMap (·.1) = ks := by rfl) (hdb : (x == ("__debug__" : Str)) = false := by decide)
    (hpl : ((backTo pos (starEach [] X.env)).any (·.1) || (backToKw pos (keywordEach kws X.env)).any (·.1.isNone)) = false := by rfl) :
    GE X (.Call (.Name x p) [] kws pos) (n2 + c) (mCallN 0 ks.length gE sp mNil m2) := by
  obtain ⟨f, fd, ps, g, gV, F, hm, hk, hb, hA⟩ := C.ex
  refine ⟨fun pins s σ H Q I h => wpAny_Call_Name_kw (ld_glob I hg hm (PySem.W.callWith_KW0 (h₀ := X.base) I.ok.mod.kin hk hall ?_ hpl) hdb)⟩
  have h1 : tA X.K n2 m2 σ H fun zs H2 => zs.length = ks.length ∧ spD X.K c sp (gV [] zs) H2 Q E0 := by
    obtain ⟨W, B, G0, H0, G, env, P, R, hm, q⟩ := h
    refine ⟨W, B + c, G0, H0, G, env, _, R.le (by omega), hm, fun bs e2 zs G2 H2 p2 s2 R2 a2 => ?_⟩
    obtain ⟨l1, l2, p3⟩ := p2
    exact ⟨by rw [args_len a2]; exact l2, W.dk, B, G2, _, _, R2.toRW.self0, hA W.dk G2 [] zs [] bs .nil a2 rfl l2, p3, fun x v G3 H3 p4 r3 d3 => q x e2 v G3 H3 p4 (s2.trans r3.g0) (R2.after r3) d3⟩
  refine thn (hkw.run pos pins s σ H _ I h1) fun ws s2 ⟨zs, H2, I2, rz, l2, q2⟩ => ⟨I2.kIn, ?_⟩
  rw [hks]
  exact runN (us := []) (vs := []) F r hb I2 .nil rz rfl l2 q2
end
end DL
namespace DL
open PySem PySem.Spec PyProof.Rows L2
/-! ### an own list that is lent for one expression of a plain worth -/
def hideV : EV → EV
  | .mo _ _ => .un
  | e => e
def hide (env : DEnv) : DEnv := env.map hideV
theorem hide_get {env : DEnv} {i : Nat} {e : EV} (h : (hide env)[i]? = some e) : (∃ w c, env[i]? = some (.mo w c) ∧ e = .un) ∨ (env[i]? = some e ∧ ∀ w c, e ≠ .mo w c) := by
  unfold hide at h
  rw [List.getElem?_map] at h
  cases z : env[i]? with
  | none =>
    rw [z] at h
    cases h
  | some u =>
    rw [z] at h
    cases u with
    | mo w c =>
      cases h
      exact .inl ⟨w, c, rfl, rfl⟩
    | «at» _ =>
      cases h
      exact .inr ⟨rfl, fun w c z => by cases z⟩
    | un =>
      cases h
      exact .inr ⟨rfl, fun w c z => by cases z⟩
    | d x =>
      cases h
      exact .inr ⟨rfl, fun w c z => by cases z⟩
    | hd =>
      cases h
      exact .inr ⟨rfl, fun w c z => by cases z⟩
theorem hide_len (env : DEnv) : (hide env).length = env.length := by
  unfold hide
  rw [List.length_map]
theorem hide_no (env : DEnv) : NoOwn (hide env) := fun i w c h => by
  rcases hide_get h with ⟨_, _, _, z⟩ | ⟨_, z⟩
  · cases z
  · exact z w c rfl
section
variable {K : PySem.W.Frag} {W : Wd} {B B' : Nat} {G0 H0 G H G' G2 H' : Hp} {env env' : DEnv} {σ : L2.St}
theorem Rel.hide (R : Rel K W B G0 H0 G env σ H) : Rel K W B G0 H0 G (DL.hide env) σ H :=
  { R.toRW with
    len := by rw [hide_len]; exact R.len
    slot := fun i e s h1 h2 => by
      rcases hide_get h1 with ⟨w, c, _, rfl⟩ | ⟨z, _⟩
      · trivial
      · exact R.slot i e s z h2
    dis := fun i j wi ci wj cj l ne h1 => absurd h1 (hide_no env i wi ci) }
/-- nothing lent goes on -/
theorem Rel.base0 (R : Rel K W B G0 H0 G env σ H) (no : NoOwn env) : Rel K (.of W.dk) B G H G env σ H :=
  { R.toRW.self0 with
    len := R.len
    slot := fun i e s h1 h2 => by
      have q := R.slot i e s h1 h2
      cases e with
      | un => trivial
      | d x => exact q
      | mo w c => exact absurd h1 (no i w c)
      | «at» _ => trivial
      | hd => exact q
    dis := fun i j wi ci wj cj l ne h1 => absurd h1 (no i wi ci) }
/-- behind it: what was published meanwhile is forgotten -/
theorem Rel.back (R : Rel K W B G0 H0 G env σ H) (q : RW (.of W.dk) B' G' H G2 H') : Rel K W B' G0 H0 G env σ H' := by
  have keep : ∀ a o, H a = some o → ¬ W.dk.mu a → H' a = some o := fun a o h m => q.fr a o h fun z => m (of_mu.mp z)
  exact
  { g0 := R.g0
    pub := fun a o h => keep a o (R.pub a o h) fun m => by
      rw [R.gm a (.inl m)] at h
      cases h
    gm := R.gm
    inv := ⟨q.inv.1, R.inv.2.1, fun a m => by
      obtain ⟨o, h⟩ := R.inv.2.2 a m
      exact ⟨o, keep a o h (R.inv.2.1 a m)⟩⟩
    fr := fun a o h m => keep a o (R.fr a o h m) fun z => m (.inl z)
    pn := R.pn
    len := R.len
    slot := fun i e s h1 h2 => by
      have z := R.slot i e s h1 h2
      cases e with
      | un => trivial
      | d x => exact z
      | mo w c =>
        obtain ⟨l, e1, hg, ho, hq⟩ := z
        subst e1
        exact ⟨l, rfl, hg, ho, scok_later (Same.refl _) (fun u hu => keep l u hu (R.mo_ndk h1 h2)) hq⟩
      | hd => exact z
      | «at» _ => trivial
    dis := R.dis }
end
theorem flat_dr {K : PySem.W.Frag} {G G' : Hp} {v : V} {x : D} (h : flatD x = true) (d : Dr K G v x) : Dr K G' v x := by
  cases d with
  | non => exact .non
  | bl b => exact .bl b
  | int i => exact .int i
  | str z => exact .str z
  | lst _ _ => cases h
  | tup _ _ => cases h
  | dic _ _ => cases h
def mLend (i : Nat) (m : ME) : ME := fun env P => ∃ xs, env[i]? = some (.own xs) ∧ m ((hide env).set i (.d (.list xs))) fun x _ => flatD x = true ∧ P x env
theorem ge_lend (i : Nat) {X : Cx} {e : Expr} {n : Nat} {m : ME} (h : GE X e n m) : GE X e n (mLend i m) := pe_imp h fun σ H Q h => by
  obtain ⟨W, B, G0, H0, G, env, P, R, ⟨xs, hx, hm⟩, q⟩ := h
  obtain ⟨l, vs, e1, hl, hg, h0, hmu, hq⟩ := R.get_own hx
  obtain ⟨R2, d2, s2⟩ := R.publish hx e1 hl hg h0 hmu hq
  have R3 := R2.hide
  have il : i < env.length := (List.getElem?_eq_some_iff.mp hx).1
  have ee : hide (env.set i (.d (.list xs))) = (hide env).set i (.d (.list xs)) := by
    unfold hide
    rw [List.map_set]
    rfl
  rw [ee] at R3
  have no : NoOwn ((hide env).set i (.d (.list xs))) := ee ▸ hide_no _
  have R4 := R3.base0 no
  refine ⟨.of W.dk, B, _, _, _, _, _, R4, hm, fun x e' v G' H' p1 s1 R5 d5 => ?_⟩
  exact q x env v G H' p1.2 (Same.refl _) (R.back R5.toRW) (flat_dr p1.1 d5)
/-! ### two targets, the first an own list -/
def sParF (i j kb : Nat) (mf : MF) : MS := fun E env => mf env fun xs e1 => match e1[kb]? with
  | some (.d y) => E.nx ((e1.set i (.own xs)).set j (.d y))
  | _ => False
theorem gs_parF {X : Cx} {a : Expr} {n1 : Nat} {mf : MF} {pos : Pos} {i j kb : Nat} {x y z : Str} {px py pz pt pt2 : Pos} {kt k2 : Nat} (hc : X.calm = true) (hN : X.N.Nodup) (hi : X.N[i]? = some x) (hj : X.N[j]? = some y) (hij : i ≠ j) (hx : X.env.scope.names.lookup x = some .local) (hy : X.env.scope.names.lookup y = some .local)
    (ha : GF X a n1 mf) (hk : X.N[kb]? = some z) (hv : Vis X.env.scope z) (hw : swappedStores [.Tuple [.Name x px, .Name y py] kt pt] (.Tuple [a, .Name z pz] k2 pt2) X.env = pure (some [x, y]))
    (hd : (z == ("__debug__" : Str)) = false := by decide) (hcd : (z == ("__classdict__" : Str)) = false := by decide) (he : starEach [a, .Name z pz] X.env = (false, eval a X.env) :: starEach [.Name z pz] X.env := by rfl) (he2 : starEach [.Name z pz] X.env = (false, eval (.Name z pz) X.env) :: starEach [] X.env := by rfl)
    (hs : swapsWithSole [.Tuple [.Name x px, .Name y py] kt pt] (.Tuple [a, .Name z pz] k2 pt2) pos.line X.env = pure false := by rfl) : GS X (.Assign [.Tuple [.Name x px, .Name y py] kt pt] (.Tuple [a, .Name z pz] k2 pt2) pos) n1 (sParF i j kb mf) :=
  ps_imp (ps_par hc hN hi hj hij hx hy (pa_cons ha (pa_cons (pe_var hk hv hd hcd) pa_nil he2) he) hw hs) fun D σ H h => by
  obtain ⟨W, B, G0, H0, G, env, E, R, hm, q⟩ := h
  refine ⟨W, B, G0, H0, G, env, _, R, hm, fun xs e1 p G1 H1 p1 s1 R1 f1 => ?_⟩
  split at p1
  · obtain ⟨v, ev, dv⟩ := R1.get_d (by assumption)
    exact ⟨v, ev, _, _, rfl, q.nx _ _ _ _ p1 s1 ((R1.set_own f1).set_d dv)⟩
  · exact p1.elim
end DL
namespace DL
open PySem PySem.Spec PyProof.Rows L2
/-! ### an own list published ahead of a statement -/
def sPub (i : Nat) (ms : MS) : MS := fun E env => match env[i]? with
  | some (.mo none (.lst xs)) => ms E (env.set i (.d (.list xs)))
  | _ => ms E env
theorem gs_pub (i : Nat) {X : Cx} {st : Stmt} {n : Nat} {ms : MS} (h : GS X st n ms) : GS X st n (sPub i ms) := ps_imp h fun D σ H h => by
  obtain ⟨W, B, G0, H0, G, env, E, R, hm, q⟩ := h
  unfold sPub at hm
  split at hm
  · obtain ⟨l, vs, e1, hl, hg, h0, hmu, hq⟩ := R.get_own (by assumption)
    obtain ⟨R2, d2, s2⟩ := R.publish (by assumption) e1 hl hg h0 hmu hq
    exact ⟨W, B, G0, H0, _, _, E, R2, hm, q.later s2⟩
  · exact ⟨W, B, G0, H0, G, env, E, R, hm, q⟩
end DL
namespace DL
open PySem PySem.Spec PyProof.Rows L2
/-! ### small data and their texts -/
mutual
def nods : D → Nat
  | .list xs => nodsA xs + 1
  | .tuple xs => nodsA xs + 1
  | _ => 1
def nodsA : List D → Nat
  | [] => 0
  | x :: r => nods x + nodsA r
end
mutual
def sml : D → Bool
  | .none => true
  | .bool _ => true
  | .int i => decide (i.natAbs < 2 ^ 24)
  | .str z => decide (z.cps.size ≤ 24) && z.cps.toList.all fun c => decide (c < 16 ^ 8)
  | .list xs => smlA xs
  | .tuple xs => smlA xs
  | .dict _ => false
def smlA : List D → Bool
  | [] => true
  | x :: r => sml x && smlA r
end
mutual
theorem sml_show : ∀ x : D, sml x = true → x.showable = true ∧ noDict x = true ∧ x.leavesShort 13 = true ∧ x.weight + 1 ≤ 26 * nods x
  | .none, _ => ⟨rfl, rfl, rfl, by simp [PyData.weight, nods]⟩
  | .bool _, _ => ⟨rfl, rfl, rfl, by simp [PyData.weight, nods]⟩
  | .int i, h => by
    have h : i.natAbs < 2 ^ 24 := by simpa [sml] using h
    have l : i.natAbs.log2 ≤ 23 := by
      by_cases z : i.natAbs = 0
      · rw [z]
        decide
      · have := (Nat.log2_lt z (k := 24)).mpr h
        omega
    refine ⟨?_, rfl, ?_, ?_⟩
    · simp only [PyData.showable, decide_eq_true_eq]
      omega
    · simp only [PyData.leavesShort]
      exact decide_eq_true (PyData.shown_int_le (Nat.lt_trans h (by decide)))
    · simp only [PyData.weight, nods]
      split <;> omega
  | .str z, h => by
    simp only [sml, Bool.and_eq_true, decide_eq_true_eq] at h
    refine ⟨rfl, rfl, h.2, ?_⟩
    simp only [PyData.weight, nods]
    omega
  | .tuple xs, h => by
    obtain ⟨h1, h2, h3, h4⟩ := smlA_show xs (by simpa [sml] using h)
    refine ⟨by simpa [PyData.showable] using h1, by simpa [noDict] using h2, by simpa [PyData.leavesShort] using h3, ?_⟩
    simp only [PyData.weight, nods]
    omega
  | .list xs, h => by
    obtain ⟨h1, h2, h3, h4⟩ := smlA_show xs (by simpa [sml] using h)
    refine ⟨by simpa [PyData.showable] using h1, by simpa [noDict] using h2, by simpa [PyData.leavesShort] using h3, ?_⟩
    simp only [PyData.weight, nods]
    omega
  | .dict _, h => by simp [sml] at h
theorem smlA_show : ∀ xs : List D, smlA xs = true → PyData.showableAll xs = true ∧ noDicts xs = true ∧ PyData.leavesShortAll 13 xs = true ∧ PyData.weightAll xs ≤ 26 * nodsA xs
  | [], _ => ⟨rfl, rfl, rfl, by simp [PyData.weightAll]⟩
  | x :: r, h => by
    simp only [smlA, Bool.and_eq_true] at h
    obtain ⟨a1, a2, a3, a4⟩ := sml_show x h.1
    obtain ⟨b1, b2, b3, b4⟩ := smlA_show r h.2
    refine ⟨by simp [PyData.showableAll, a1, b1], by simp [noDicts, a2, b2], by simp [PyData.leavesShortAll, a3, b3], ?_⟩
    simp only [PyData.weightAll, nodsA]
    omega
end
/-- what repr asks -/
theorem sml_repr {x : D} (h : sml x = true) (hd : x.depth ≤ 60) (hn : nods x ≤ 40000) : (x.showable = true ∧ noDict x = true) ∧ x.depth ≤ 60 ∧ x.shown.length ≤ sizeLine := by
  obtain ⟨h1, h2, h3, h4⟩ := sml_show x h
  refine ⟨⟨h1, h2⟩, hd, PyData.shown_fits (by decide) (by decide) h3 ?_⟩
  have : (2 : Nat) ^ 20 = 1048576 := by decide
  omega
/-- small, not deep, few parts -/
def Sm (d n : Nat) (x : D) : Prop := sml x = true ∧ x.depth ≤ d ∧ nods x ≤ n
def SmA (d n : Nat) (xs : List D) : Prop := smlA xs = true ∧ PyData.depthAll xs ≤ d ∧ nodsA xs ≤ n
theorem Sm.repr {d n : Nat} {x : D} (h : Sm d n x) (hd : d ≤ 60) (hn : n ≤ 40000) : (x.showable = true ∧ noDict x = true) ∧ x.depth ≤ 60 ∧ x.shown.length ≤ sizeLine :=
  sml_repr h.1 (Nat.le_trans h.2.1 hd) (Nat.le_trans h.2.2 hn)
theorem Sm.le {d n d' n' : Nat} {x : D} (h : Sm d n x) (hd : d ≤ d') (hn : n ≤ n') : Sm d' n' x := ⟨h.1, Nat.le_trans h.2.1 hd, Nat.le_trans h.2.2 hn⟩
theorem SmA.le {d n d' n' : Nat} {x : List D} (h : SmA d n x) (hd : d ≤ d') (hn : n ≤ n') : SmA d' n' x := ⟨h.1, Nat.le_trans h.2.1 hd, Nat.le_trans h.2.2 hn⟩
theorem sm_int {i : Int} (h : i.natAbs < 2 ^ 24) : Sm 0 1 (.int i) := ⟨by simpa [sml] using h, by simp [PyData.depth], by simp [nods]⟩
theorem sm_none : Sm 0 1 .none := ⟨rfl, by simp [PyData.depth], by simp [nods]⟩
theorem sm_bool {b : Bool} : Sm 0 1 (.bool b) := ⟨rfl, by simp [PyData.depth], by simp [nods]⟩
theorem sm_nil {d n : Nat} : SmA d n [] := ⟨rfl, by simp [PyData.depthAll], by simp [nodsA]⟩
theorem sm_cons {d n m : Nat} {x : D} {xs : List D} (h : Sm d n x) (t : SmA d m xs) : SmA d (n + m) (x :: xs) :=
  ⟨by rw [smlA, h.1, t.1]; rfl, by rw [PyData.depthAll]; exact Nat.max_le.mpr ⟨h.2.1, t.2.1⟩, by rw [nodsA]; exact Nat.add_le_add h.2.2 t.2.2⟩
theorem sm_tup {d n : Nat} {xs : List D} (h : SmA d n xs) : Sm (d + 1) (n + 1) (.tuple xs) :=
  ⟨by rw [sml]; exact h.1, by rw [PyData.depth]; exact Nat.add_le_add_right h.2.1 1, by rw [nods]; exact Nat.add_le_add_right h.2.2 1⟩
theorem sm_lst {d n : Nat} {xs : List D} (h : SmA d n xs) : Sm (d + 1) (n + 1) (.list xs) :=
  ⟨by rw [sml]; exact h.1, by rw [PyData.depth]; exact Nat.add_le_add_right h.2.1 1, by rw [nods]; exact Nat.add_le_add_right h.2.2 1⟩
theorem sm_all {d n : Nat} : ∀ {xs : List D}, (∀ x ∈ xs, Sm d n x) → SmA d (n * xs.length) xs
  | [], _ => sm_nil
  | x :: xs, h => by
    have := sm_cons (h x List.mem_cons_self) (sm_all (xs := xs) fun y hy => h y (List.mem_cons_of_mem _ hy))
    refine this.le (Nat.le_refl _) ?_
    rw [List.length_cons, Nat.mul_add]
    omega
end DL
namespace DL
open PySem PySem.Spec PyProof.Rows L2
/-! ### x += e, whole numbers -/
def sAugI (i : Nat) (m : ME) : MS := fun E env => match env[i]? with
  | some (.d (.int a)) => m env fun y e1 => match y with
    | .int b => E.nx (e1.set i (.d (.int (a + b))))
    | _ => False
  | _ => False
theorem gs_augI {X : Cx} {i : Nat} {x : Str} {e : Expr} {ne : Nat} {me : ME} {pos pos' : Pos} (hN : X.N.Nodup) (hi : X.N[i]? = some x) (hx : Loc X.env.scope x) (he : GE X e ne me)
    (hf : X.fn x = true ∨ X.env.scope.names.lookup x = some .local := by first | exact .inl rfl | exact .inr rfl) :
    GS X (.AugAssign (.Name x pos') .Add e pos) ne (sAugI i me) := ps_imp (ps_aug hN hi hx he ip_add hf) fun D σ H h => by
  obtain ⟨W, B, G0, H0, G, env, E, R, hm, q⟩ := h
  unfold sAugI at hm
  split at hm
  · rename_i a ea
    obtain ⟨v, ev, dv⟩ := R.get_d ea
    cases dp_int dv
    refine ⟨_, ev, W, B, G0, H0, G, env, _, R, hm, fun y e1 u G1 H1 p1 s1 R1 d1 => ?_⟩
    cases y with
    | int b =>
      cases dp_int d1
      exact ⟨a, b, rfl, rfl, q.nx _ _ _ _ p1 s1 (R1.set_d (.int _))⟩
    | _ => exact p1.elim
  · exact hm.elim
/-! ### t[::-1] -/
section
variable {prog : Program} {w : World} {A : Around} {E : Value → Shared → Prop} {s : Shared}
theorem rev_adjust (n : Nat) : Builtin.Slice.sliceAdjust none none (-1) (n : Int) = ((n : Int) - 1, -1) := by
  unfold Builtin.Slice.sliceAdjust
  have h1 : ((-1 : Int) < 0) := by omega
  simp only [h1, if_true]
theorem rev_places (n : Nat) : Builtin.Slice.slicePlaces ((n : Int) - 1) (-1) (-1) = n := by
  unfold Builtin.Slice.slicePlaces
  have h1 : ¬ ((-1 : Int) > 0) := by omega
  simp only [h1, if_false]
  have e : (-(-1) : Int) = 1 := by decide
  rw [e, Int.ediv_one]
  split <;> omega
theorem fm_congr {α β : Type} {f g : α → Option β} : ∀ {l : List α}, (∀ x ∈ l, f x = g x) → l.filterMap f = l.filterMap g
  | [], _ => rfl
  | x :: l, h => by
    rw [List.filterMap_cons, List.filterMap_cons, h x List.mem_cons_self, fm_congr (l := l) fun y hy => h y (List.mem_cons_of_mem _ hy)]
theorem rev_pick (xs : Array Value) : ((List.range xs.size).filterMap fun (m : Nat) => xs[(((xs.size : Int) - 1) + (m : Int) * (-1)).toNat]?).toArray = xs.toList.reverse.toArray := by
  have h2 : (List.range xs.size).filterMap (fun (m : Nat) => xs[(((xs.size : Int) - 1) + (m : Int) * (-1)).toNat]?) = ((List.range xs.size).map fun k => xs.size - 1 - k).filterMap (xs[·]?) := by
    rw [List.filterMap_map]
    refine fm_congr fun m hm => ?_
    have := List.mem_range.mp hm
    show xs[_]? = xs[xs.size - 1 - m]?
    rw [show (((xs.size : Int) - 1) + (m : Int) * (-1)).toNat = xs.size - 1 - m by omega]
  rw [h2, PySem.W.krv_range, List.filterMap_reverse, PySem.W.krv_all]
theorem sliceApplied_rev {sl : Addr} {vs : Value} {n : Nat} {Q : Int × Int × Nat → Shared → Prop} (hs : s.heap.IsSliceOf sl .none .none vs) (ps : IsPart vs (some (-1)))
    (h : Q ((n : Int) - 1, -1, n) s) : wpAny (model prog w) A (Builtin.Slice.sliceApplied (.ref sl) (pure (n : Int))) Q E s := by
  obtain ⟨os, hos, hcs, hds⟩ := id hs
  unfold Builtin.Slice.sliceApplied Builtin.Slice.sliceFields
  refine wpAny_bind (wpAny_bind (wpAny_field hos hds (x := .none) rfl (wpAny_bind (wpAny_field hos hds (x := .none) rfl (wpAny_bind (wpAny_field hos hds (x := vs) rfl (wpAny_pure ?_)))))))
  refine wpAny_bind (HT.slicePart_ ps ?_)
  show wpAny _ _ (if ((-1 : Int) == 0) = true then _ else _) _ _ s
  rw [if_neg (by decide)]
  refine wpAny_bind (HT.slicePart_ .none (wpAny_bind (HT.slicePart_ .none (wpAny_bind (wpAny_pure ?_)))))
  show wpAny _ _ (match Builtin.Slice.sliceAdjust none none (-1) (n : Int) with | (lo, hi) => pure (lo, (-1 : Int), Builtin.Slice.slicePlaces lo hi (-1))) _ _ s
  rw [rev_adjust n]
  show wpAny _ _ (pure ((n : Int) - 1, (-1 : Int), Builtin.Slice.slicePlaces ((n : Int) - 1) (-1) (-1))) _ _ s
  rw [rev_places]
  exact wpAny_pure h
theorem getItem_tuple_rev {t sl : Addr} {items : Array Value} {vs : Value} {Q : Value → Shared → Prop} (ht : IsTup s.heap t items) (hs : s.heap.IsSliceOf sl .none .none vs) (ps : IsPart vs (some (-1)))
    (h : Q (.ref s.heap.objs.size) { s with heap := s.heap.push { cls := .type "tuple", data := .seq items.toList.reverse.toArray } }) (hsz : items.size ≤ sizeLine) : wpAny (model prog w) A (getItem (.ref t) (.ref sl)) Q E s := by
  have htake : sizeOk (.seq items.toList.reverse.toArray) := by
    show items.toList.reverse.toArray.size ≤ sizeLine
    rw [List.size_toArray, List.length_reverse, Array.length_toList]
    exact hsz
  obtain ⟨os, hos, hcs, hds⟩ := id hs
  have hTs : s.TypeIs (.ref sl) "slice" := ⟨os, hos, hcs⟩
  unfold getItem
  try with_reducible refine wpAny_holding ?_
  first | refine wpAny_bind (wpAny_pure ?_) | skip
  refine wpAny_bind (wpAny_sequenceKey ht.typeIs (by decide) ?_)
  refine wpAny_bind (wpAny_callSpecial?_slot (name := Str.ofString "__getitem__") ht.typeIs PyProof.Rows.slot_tuple_getitem
    (wpAny_call_entry PyProof.Rows.slot_tuple_getitem ht.typeIs entry_tuple_getitem ?_ (args_tuple_getitem _ _)))
  show wpAny _ _ (Builtin.Tuple.tupleItemsOf (.ref t) >>= _) _ _ s
  refine wpAny_bind (tupleItemsOf_ ht ?_)
  refine wpAny_bind (wpAny_typeOf hTs ?_)
  rw [if_pos (by decide)]
  refine wpAny_bind (sliceApplied_rev hs ps ?_)
  have hno : ¬ ((((items.size : Int) - 1) == 0 && (-1 : Int) == 1 && items.size == items.size) = true) := by
    intro q
    rw [Bool.and_eq_true, Bool.and_eq_true] at q
    exact absurd (eq_of_beq q.1.2) (by decide)
  show wpAny _ _ (if (((items.size : Int) - 1) == 0 && (-1 : Int) == 1 && items.size == items.size) = true then _ else _) _ _ s
  rw [if_neg hno]
  dsimp only
  rw [rev_pick]
  first
    | exact wpAny_bind (m := Builtin.Tuple.tupleExact _) (wpAny_newObj_type (wpAny_pure ⟨_, rfl, wpAny_pure h⟩) htake)
    | exact wpAny_bind (m := Builtin.Tuple.tupleExact _) (wpAny_newObj_type (wpAny_bind (wpAny_pure (wpAny_pure ⟨_, rfl, wpAny_pure h⟩))) htake)
    | exact wpAny_bind (wpAny_bind (m := Builtin.Tuple.tupleExact _) (wpAny_newObj_type (wpAny_pure (wpAny_pure ⟨_, rfl, wpAny_pure h⟩)) htake))
    | exact wpAny_bind (wpAny_bind (m := Builtin.Tuple.tupleExact _) (wpAny_newObj_type (wpAny_pure ⟨_, rfl, wpAny_pure h⟩) htake))
end
def dRevT : D → (D → Prop) → Prop
  | .tuple xs, P => P (.tuple xs.reverse)
  | _, _ => False
def tRevT (K : PySem.W.Frag) (te : TE) : TE := fun σ H Q => te σ H fun x H1 => ∃ a xs, x = .ref a ∧ SqT K H1 a xs ∧ ∀ p, H1 p = none → Q (.ref p) (upd H1 p (.tup xs.reverse))
section
variable {X : Cx} {e : Expr} {pos : Pos}
theorem pe_revT {te : TE} {k : Nat} {p1 p2 p3 : Pos} (he : PE X e te) : PE X (.Subscript e (.Slice none none (some (.UnaryOp .USub (.Constant (.int 1) k p1) p2)) p3) pos) (tRevT X.K te) := by
  refine ⟨fun pins s σ H Q I h => ?_⟩
  refine Subscript_ (thn (he.run pins s σ H _ I h) fun v s1 ⟨x, H1, I1, r1, q1⟩ => ?_)
  obtain ⟨a, xs, ex, hx, q⟩ := q1
  subst ex
  cases r1
  have hst : PO X (some (.UnaryOp .USub (.Constant (.int 1) k p1) p2)) (tPart (tUn (rU fun i => .int (-i)) (tC (.int 1)))) := po_some (pe_un un_neg pe_int)
  refine wpAny_Slice (thn (po_none.run pins s1 σ H1 (fun o H2 => o = none ∧ H2 = H1) I1 ⟨rfl, rfl⟩) fun vl s2 ⟨l, H2, I2, pl, el, e2⟩ => ?_)
  subst el e2
  refine thn (po_none.run pins s2 σ H2 (fun o H3 => o = none ∧ H3 = H2) I2 ⟨rfl, rfl⟩) fun vu s3 ⟨u, H3, I3, pu, eu, e3⟩ => ?_
  subst eu e3
  refine thn (hst.run pins s3 σ H3 (fun o H4 => o = some (-1) ∧ H4 = H3) I3 ⟨1, rfl, -1, rfl, rfl, rfl⟩) fun vs s4 ⟨o, H4, I4, ps, eo, e4⟩ => ?_
  subst eo e4
  cases pl
  cases pu
  have I5 : Inv X pins σ H4 { s4 with heap := s4.heap.push { cls := .type "slice", data := .fields #[.none, .none, vs] } } := I4.kept (t' := s4.toks) fun b ob q => Heap.get?_push_of_some _ q
  obtain ⟨its, r, ht, hz⟩ := I5.tuple hx
  have hlen : its.toArray.size = xs.length := by rw [List.size_toArray]; exact r.length.symm
  show wpAny (model X.prog X.w) X.A (subscriptTail e (.Slice none none (some (.UnaryOp .USub (.Constant (.int 1) k p1) p2)) p3) (.ref a) (.ref s4.heap.objs.size)) (EP X pins σ Q) X.xe { s4 with heap := s4.heap.push { cls := .type "slice", data := .fields #[.none, .none, vs] } }
  refine tail_any (ops := [.ref a, .ref s4.heap.objs.size]) ht.typeIs (PyProof.Rows.slot_tuple_getitem.lookup) ?_ (by with_unfolding_all rfl)
  refine getItem_tuple_rev ht (Heap.IsSliceOf.new _ .none .none vs) ps ?_ (by rw [hlen]; exact hz)
  refine ⟨.ref _, _, I5.laid (t' := s4.toks) (o := .tup xs.reverse) (fun b ob q => Heap.get?_push_of_some _ q) (Nat.le_refl _) ?_, rfl, q _ (I5.hok.fresh (Nat.le_refl _))⟩
  exact ⟨by rw [List.length_reverse]; exact hz, _, r.reverse, IsTup.new _ _⟩
theorem ge_revT {k ne : Nat} {me : ME} {p1 p2 p3 : Pos} (he : GE X e ne me) : GE X (.Subscript e (.Slice none none (some (.UnaryOp .USub (.Constant (.int 1) k p1) p2)) p3) pos) ne (mUn dRevT me) := pe_imp (pe_revT he) fun σ H Q h => by
  obtain ⟨W, B, G0, H0, G, env, P, R, hm, q⟩ := h
  refine ⟨W, B, G0, H0, G, env, _, R, hm, fun x e1 v G1 H1 p1 s1 R1 d1 => ?_⟩
  cases x with
  | tuple xs =>
    obtain ⟨a, ws, rfl, h1, h2⟩ := dp_tup d1
    refine ⟨a, ws, rfl, same_sqT R1.pub h1, fun p hp => ?_⟩
    have g := Grow.new1 (o := .tup ws.reverse) R1.pub hp
    exact q _ e1 _ _ _ p1 (s1.trans g.eg) (R1.grow g) (.tup (SqT.of upd_same) (dpAll_same g.eg (dpAll_rev h2)))
  | _ => exact p1.elim
end
end DL
namespace DL
open PySem PySem.Spec PyProof.Rows L2
/-! ### repr of data with dicts -/
mutual
def noLst : D → Bool
  | .list _ => false
  | .tuple xs => noLstA xs
  | .dict ks => noLstK ks
  | _ => true
def noLstA : List D → Bool
  | [] => true
  | x :: r => noLst x && noLstA r
def noLstK : List (D × D) → Bool
  | [] => true
  | (_, x) :: r => noLst x && noLstK r
end
theorem key_reads {P : Program} {w : World} {h : Heap} {k : Key} {u : Value} (r : (mixKind P w).is k u = true) : Reads h u (keyD k) [] := by
  rcases keyIs_shape r with ⟨i, t, rfl, rfl⟩ | ⟨x, t, rfl, rfl⟩
  · exact Reads.int i t
  · exact Reads.str x t
section
variable {X : Cx} {pins : List (Addr × Obj)} {σ : L2.St} {H : Hp} {s : Shared}
mutual
theorem dr_reads (I : Inv X pins σ H s) : ∀ (d : D) (v : V) (u : Value), (H sysModules = none ∨ noLst d = true) → Dr X.K H v d → RelV v u → ∃ as, Reads s.heap u d as ∧ sysModules ∉ as
  | .none, _, _, _, h, r => by
    cases h
    cases r
    exact ⟨_, Reads.none, by simp⟩
  | .bool b, _, _, _, h, r => by
    cases h
    cases r
    exact ⟨_, Reads.bool b, by simp⟩
  | .int i, _, _, _, h, r => by
    cases h
    obtain ⟨t, rfl⟩ := r
    exact ⟨_, Reads.int i t, by simp⟩
  | .str x, _, _, _, h, r => by
    cases h
    obtain ⟨t, rfl⟩ := r
    exact ⟨_, Reads.str x t, by simp⟩
  | .list ds, _, _, hs, h, r => by
    cases h with
    | lst hg ha =>
      cases r
      have hs : H sysModules = none := hs.resolve_right (by simp [noLst])
      obtain ⟨its, rv, ⟨o, n, ho, hc, _, hd⟩, _⟩ := I.list (SqL.of hg)
      obtain ⟨as, hr, hn⟩ := dr_readsA I ds _ its (.inl hs) ha rv
      refine ⟨_, Reads.list ho hc hd hr, fun z => ?_⟩
      rcases List.mem_cons.mp z with z | z
      · rw [← z, hs] at hg
        cases hg
      · exact hn z
  | .tuple ds, _, _, hs, h, r => by
    cases h with
    | tup hg ha =>
      cases r
      obtain ⟨its, rv, ⟨o, ho, hc, n, hd⟩, _⟩ := I.tuple hg
      obtain ⟨as, hr, hn⟩ := dr_readsA I ds _ its (hs.imp id fun z => by simpa [noLst] using z) ha rv
      exact ⟨_, Reads.tuple ho hc hd hr, hn⟩
  | .dict ds, _, _, hs, h, r => by
    cases h with
    | dic hg ha =>
      cases r
      obtain ⟨hz, hS, vs, rv, o, es, ep, ho, hx, hd, hk, hp, hn⟩ := I.hok _ _ hg
      obtain ⟨as, q1, n1, bs, q2, n2⟩ := dr_readsK I ds _ vs es.toList (hs.imp id fun z => by simpa [noLst] using z) ha rv hp
      refine ⟨_, Reads.dict ho hx.1 hd q1 q2, fun z => ?_⟩
      rcases List.mem_append.mp z with z | z
      · rcases List.mem_cons.mp z with z | z
        · rw [← z] at hS
          exact absurd hS (by decide)
        · exact n1 z
      · exact n2 z
theorem dr_readsA (I : Inv X pins σ H s) : ∀ (ds : List D) (vs : List V) (us : List Value), (H sysModules = none ∨ noLstA ds = true) → DrAll X.K H vs ds → Vals vs us → ∃ as, ReadsAll s.heap us ds as ∧ sysModules ∉ as
  | [], _, _, _, h, r => by
    cases h
    cases r
    exact ⟨_, ReadsAll.nil, by simp⟩
  | d :: ds, _, _, hs, h, r => by
    cases h with
    | cons h1 h2 =>
      cases r with
      | cons r1 r2 =>
        have hs1 : (H sysModules = none ∨ noLst d = true) ∧ (H sysModules = none ∨ noLstA ds = true) := by
          rcases hs with z | z
          · exact ⟨.inl z, .inl z⟩
          · simp only [noLstA, Bool.and_eq_true] at z
            exact ⟨.inr z.1, .inr z.2⟩
        obtain ⟨as, q1, n1⟩ := dr_reads I d _ _ hs1.1 h1 r1
        obtain ⟨bs, q2, n2⟩ := dr_readsA I ds _ _ hs1.2 h2 r2
        refine ⟨_, ReadsAll.cons q1 q2, fun z => ?_⟩
        rcases List.mem_append.mp z with z | z
        · exact n1 z
        · exact n2 z
theorem dr_readsK (I : Inv X pins σ H s) : ∀ (ds : List (D × D)) (kvs : List (Key × V)) (vs : List (Key × Value)) (es : List DictEntry), (H sysModules = none ∨ noLstK ds = true) → DrKv X.K H kvs ds → KV kvs vs → Pairs (mixKind X.prog X.w) es vs →
    ∃ as, ReadsAll s.heap (es.map (·.key)) (ds.map (·.1)) as ∧ sysModules ∉ as ∧ ∃ bs, ReadsAll s.heap (es.map (·.val)) (ds.map (·.2)) bs ∧ sysModules ∉ bs
  | [], _, _, _, _, h, r, p => by
    cases h
    cases r
    cases p
    exact ⟨_, ReadsAll.nil, by simp, _, ReadsAll.nil, by simp⟩
  | (k, d) :: ds, _, _, _, hs, h, r, p => by
    cases h with
    | cons h1 h2 =>
      cases r with
      | cons r1 r2 =>
        cases p with
        | cons p1 p2 p3 =>
          have hs1 : (H sysModules = none ∨ noLst d = true) ∧ (H sysModules = none ∨ noLstK ds = true) := by
            rcases hs with z | z
            · exact ⟨.inl z, .inl z⟩
            · simp only [noLstK, Bool.and_eq_true] at z
              exact ⟨.inr z.1, .inr z.2⟩
          obtain ⟨bs, q2, n2⟩ := dr_reads I d _ _ hs1.1 h1 (p2 ▸ r1.2)
          obtain ⟨as', q1', n1', bs', q2', n2'⟩ := dr_readsK I ds _ _ _ hs1.2 h2 r2 p3
          refine ⟨_, ReadsAll.cons (key_reads (r1.1 ▸ p1)) q1', fun z => ?_, _, ReadsAll.cons q2 q2', fun z => ?_⟩
          · rcases List.mem_append.mp z with z | z
            · cases z
            · exact n1' z
          · rcases List.mem_append.mp z with z | z
            · exact n2 z
            · exact n2' z
end
end
/-- repr of any data: without dicts, or without lists -/
def dReprD : List D → (D → Prop) → Prop
  | [x], P => (x.showable = true ∧ (noDict x = true ∨ noLst x = true)) ∧ x.depth ≤ 60 ∧ x.shown.length ≤ sizeLine ∧ P (.str x.shown)
  | _, _ => False
section
variable {X : Cx}
theorem cd_reprD (hg : X.A.guards = some []) (hu : X.A.units + 64 < cLine) : CallR X (.builtin "repr") (rDC X.K dReprD) := by
  intro pins s σ H xs us Q I r h
  obtain ⟨G, ds, P, sG, da, hf, q⟩ := h
  unfold dReprD at hf
  split at hf
  · obtain ⟨v, rfl, d⟩ := all1 da
    obtain ⟨⟨h1, h2⟩, h3, h4, hP⟩ := hf
    rcases h2 with h2 | h2
    · exact cd_reprA hg hu pins s σ H _ us Q I r ⟨G, _, P, sG, .cons d .nil, ⟨⟨h1, h2⟩, h3, h4, hP⟩, q⟩
    have d2 := dp_same sG d
    have q' := q _ _ G H hP (Grow.refl sG) (.str _)
    have go : ∀ a, v = .ref a → wpAny (model X.prog X.w) X.A (call (.builtin "repr") us) (EP X pins σ Q) X.xe s := fun a ev => by
      subst ev
      obtain ⟨u, rfl, r1⟩ := vals1 r
      obtain ⟨as, rd, hn⟩ := dr_reads I _ _ _ (.inr h2) d2 r1
      cases r1
      refine repr_of_reads' rd h1 (fun _ => hn) hg (by omega) (fun b o e => e) (fun h' t tk hk => ?_) h4
      exact ⟨.str _, H, I.kept hk, ⟨_, rfl⟩, q'⟩
    cases d with
    | int i =>
      obtain ⟨u, rfl, t, rfl⟩ := vals1 r
      exact PySem.P.repr_of_int (by simpa [PyData.showable] using h1) ⟨.str _, H, I.tok _, ⟨_, rfl⟩, q'⟩
    | str z =>
      obtain ⟨u, rfl, t, rfl⟩ := vals1 r
      exact PySem.P.repr_of_str ⟨.str _, H, I.tok _, ⟨_, rfl⟩, q'⟩ h4
    | bl b =>
      obtain ⟨u, rfl, r1⟩ := vals1 r
      cases r1
      exact PySem.P.repr_of_bool ⟨.str _, H, I.tok _, ⟨_, rfl⟩, q'⟩
    | non =>
      obtain ⟨u, rfl, r1⟩ := vals1 r
      cases r1
      exact PySem.P.repr_of_none ⟨.str _, H, I.tok _, ⟨_, rfl⟩, q'⟩
    | lst a b => exact go _ rfl
    | tup a b => exact go _ rfl
    | dic a b => exact go _ rfl
  · exact hf.elim
end
end DL
namespace DL
open PySem PySem.Spec PyProof.Rows L2
/-! ### zip of two things of any sort: lists, tuples, texts -/
/-- one of the parts: Co: what it walks over stands in the heap, St: its iterator -/
structure Wlk (it : Addr) (ls : List Addr) (n : Nat) (Y : Nat → Value → Prop) (Co : Heap → Prop) (St : Nat → Heap → Prop) : Prop where
  keep : ∀ {k : Nat} {h h' : Heap}, St k h → (∀ o, h.get? it = some o → h'.get? it = some o) → St k h'
  keepC : ∀ {h h' : Heap}, Co h → (∀ c ∈ ls, ∀ o, h.get? c = some o → h'.get? c = some o) → Co h'
  obj : ∀ {k : Nat} {h : Heap}, St k h → ∃ o fs, h.get? it = some o ∧ o.data = .fields fs
  item : ∀ {prog : Program} {w : World} {A : Around} {E : Value → Shared → Prop} {s : Shared} {k : Nat} {Q : Value → Shared → Prop}, St k s.heap → Co s.heap → k < n →
    (∀ v h' tk, Y k v → St (k + 1) h' → Heap.SameBut it s.heap h' → Q v { s with heap := h', toks := tk }) → wpAny (model prog w) A (Builtin.SmallTypes.nextOf (.ref it)) Q E s
  done : ∀ {prog : Program} {w : World} {A : Around} {E : Value → Shared → Prop} {s : Shared} {k : Nat} {Q : Value → Shared → Prop}, A.handled = none → St k s.heap → Co s.heap → n ≤ k →
    (∀ h' e, Heap.ExtBut it s.heap h' → (∃ o, h'.get? e = some o ∧ o.cls = .type "StopIteration") → E (.ref e) { s with heap := h' }) → wpAny (model prog w) A (Builtin.SmallTypes.nextOf (.ref it)) Q E s
theorem wk_tup {it l : Addr} {its : Array Value} : Wlk it [l] its.size (fun k v => its[k]? = some v) (fun h => h.IsTuple l its) (fun k h => h.IsTupleIter it l k) where
  keep := fun st e => st.at e
  keepC := fun co e => co.at (e l (by simp))
  obj := fun ⟨o, h1, _, h2⟩ => ⟨o, _, h1, h2⟩
  item := fun {prog w A E s k Q} st co hk hQ => RZ.nextOf_tuple_item st co (Array.getElem?_eq_getElem hk) fun h' a b => hQ _ h' s.toks (Array.getElem?_eq_getElem hk) a b
  done := fun ok st co hk hE => RZ.nextOf_tuple_end ok st co (Array.getElem?_eq_none hk) hE
theorem wk_lst {it l : Addr} {its : Array Value} : Wlk it [l] its.size (fun k v => its[k]? = some v) (fun h => h.IsList l its) (fun k h => h.IsListIter it l k) where
  keep := fun st e => st.at e
  keepC := fun co e => co.at (e l (by simp))
  obj := fun ⟨o, h1, _, h2⟩ => ⟨o, _, h1, h2⟩
  item := fun {prog w A E s k Q} st co hk hQ => wpAny_nextOf_list_item st co (Array.getElem?_eq_getElem hk) fun h' a b => hQ _ h' s.toks (Array.getElem?_eq_getElem hk) a b
  done := fun ok st co hk hE => wpAny_nextOf_list_end ok st co (Array.getElem?_eq_none hk) hE
theorem wk_asc {it : Addr} {x : Str} {t : Tok} : Wlk it [] x.cps.size (fun k v => ∃ c u, x.cps[k]? = some c ∧ v = .str ⟨#[c]⟩ u) (fun _ => True) (fun k h => h.IsStrIter it "str_ascii_iterator" x t k) where
  keep := fun ⟨o, h1, h2⟩ e => ⟨o, e o h1, h2⟩
  keepC := fun _ _ => trivial
  obj := fun ⟨o, h1, _, h2⟩ => ⟨o, _, h1, h2⟩
  item := fun {prog w A E s k Q} st co hk hQ => wpAny_nextOf_ascii_item st (Array.getElem?_eq_getElem hk) fun h' a b => hQ _ h' _ ⟨_, _, Array.getElem?_eq_getElem hk, rfl⟩ a b
  done := fun ok st co hk hE => wpAny_nextOf_ascii_end ok st (Array.getElem?_eq_none hk) hE
theorem wk_wid {it : Addr} {x : Str} {t : Tok} : Wlk it [] x.cps.size (fun k v => ∃ c u, x.cps[k]? = some c ∧ v = .str ⟨#[c]⟩ u) (fun _ => True) (fun k h => h.IsStrIter it "str_iterator" x t k) where
  keep := fun ⟨o, h1, h2⟩ e => ⟨o, e o h1, h2⟩
  keepC := fun _ _ => trivial
  obj := fun ⟨o, h1, _, h2⟩ => ⟨o, _, h1, h2⟩
  item := fun {prog w A E s k Q} st co hk hQ => wpAny_nextOf_wide_item st (Array.getElem?_eq_getElem hk) fun h' a b => hQ _ h' _ ⟨_, _, Array.getElem?_eq_getElem hk, rfl⟩ a b
  done := fun ok st co hk hE => wpAny_nextOf_wide_end ok st (Array.getElem?_eq_none hk) hE
/-- the five new objects, and what is walked over, stand apart -/
structure Ap (z TI TO i1 i2 : Addr) (ls : List Addr) : Prop where
  d : TI ≠ z ∧ TO ≠ z ∧ i1 ≠ z ∧ i2 ≠ z ∧ TI ≠ TO ∧ TI ≠ i1 ∧ TI ≠ i2 ∧ TO ≠ i1 ∧ TO ≠ i2 ∧ i1 ≠ i2
  l : ∀ c ∈ ls, c ≠ z ∧ c ≠ TO ∧ c ≠ i1 ∧ c ≠ i2
section
variable {prog : Program} {w : World} {A : Around} {E : Value → Shared → Prop} {s : Shared} {z TI TO i1 i2 : Addr} {ls1 ls2 : List Addr} {n1 n2 : Nat} {Y1 Y2 : Nat → Value → Prop} {C1 C2 : Heap → Prop} {S1 S2 : Nat → Heap → Prop}
theorem zn_next {k : Nat} {a b : Value} {Q : Value → Shared → Prop} (W1 : Wlk i1 ls1 n1 Y1 C1 S1) (W2 : Wlk i2 ls2 n2 Y2 C2 S2) (D : Ap z TI TO i1 i2 (ls1 ++ ls2)) (hz : IsZip s.heap z TI TO .none) (hTI : IsPair s.heap TI (.ref i1) (.ref i2)) (hTO : IsPair s.heap TO a b)
    (m1 : S1 k s.heap) (m2 : S2 k s.heap) (c1 : C1 s.heap) (c2 : C2 s.heap) (l1 : k < n1) (l2 : k < n2)
    (hQ : ∀ x y h' tk, Y1 k x → Y2 k y → IsZip h' z TI TO (rawInt s.heap.objs.size) → IsPair h' TO x y → S1 (k + 1) h' → S2 (k + 1) h' → IsPair h' s.heap.objs.size x y →
      (∀ c o, c ≠ z → c ≠ TO → c ≠ i1 → c ≠ i2 → s.heap.get? c = some o → h'.get? c = some o) → Q (.ref s.heap.objs.size) { s with heap := h', toks := tk }) :
    wpAny (model prog w) A (Builtin.«zip.__next__» ⟨[.ref z], []⟩) (fun fin s' => ∃ v, fin = .done (.ret v) ∧ Q v s') E s := by
  obtain ⟨d1, d2, d3, d4, d5, d6, d7, d8, d9, d10⟩ := D.d
  have dl1 := fun c hc => D.l c (List.mem_append_left _ hc)
  have dl2 := fun c hc => D.l c (List.mem_append_right _ hc)
  show wpAny _ _ (field (.ref z) 2 >>= _) _ _ _
  refine wpAny_bind (wpAny_field hz rfl (x := .bool false) rfl ?_)
  show wpAny _ _ (field (.ref z) 3 >>= _) _ _ _
  refine wpAny_bind (wpAny_field hz rfl (x := .ref TI) rfl (wpAny_bind (wpAny_seqItems hTI rfl ?_)))
  show wpAny _ _ (Builtin.SmallTypes.ownedTupleIsFree (.ref z) >>= _) _ _ _
  refine wpAny_bind ?_
  unfold Builtin.SmallTypes.ownedTupleIsFree
  refine wpAny_bind (wpAny_field hz rfl (x := .none) rfl (wpAny_pure ?_))
  simp only [if_true]
  refine wpAny_bind (wpAny_rule (wpAny_bind (wpAny_field hz rfl (x := .ref TO) rfl ?_)))
  refine wpAny_bind (wpAny_setField_rec hz (by simp) fun ha za sa => ?_)
  have za : IsZip ha z TI TO .ellipsis := za
  refine wpAny_bind ?_
  simp only [List.zipIdx_cons, List.zipIdx_nil, List.forIn_cons, List.forIn_nil]
  refine wpAny_bind (wpAny_bind (wpAny_onRaise ?_))
  show wpAny _ _ (Builtin.SmallTypes.nextOf (.ref i1) >>= _) _ _ _
  refine wpAny_bind (W1.item (s := { s with heap := ha }) (W1.keep m1 fun o q => sa.extBut _ _ d3 q) (W1.keepC c1 fun c hc o q => sa.extBut _ _ (dl1 c hc).1 q) l1 fun x hb tb yx nb sb => wpAny_pure ?_)
  have sb : Heap.SameBut i1 ha hb := sb
  have ob : IsPair hb TO a b := sb.extBut _ _ d8 (sa.extBut _ _ d2 hTO)
  refine wpAny_bind (wpAny_seqItems ob rfl (wpAny_bind (wpAny_updateSeq_pair ob fun hc oc sc => ?_)))
  have oc : IsPair hc TO x b := oc
  refine wpAny_bind (wpAny_letGo (wpAny_pure ?_))
  refine wpAny_bind (wpAny_bind (wpAny_onRaise ?_))
  show wpAny _ _ (Builtin.SmallTypes.nextOf (.ref i2) >>= _) _ _ _
  refine wpAny_bind (W2.item (s := { s with heap := hc, toks := tb }) (W2.keep m2 fun o q => sc.extBut _ _ d9.symm (sb.extBut _ _ d10.symm (sa.extBut _ _ d4 q))) (W2.keepC c2 fun c hcm o q => sc.extBut _ _ (dl2 c hcm).2.1 (sb.extBut _ _ (dl2 c hcm).2.2.1 (sa.extBut _ _ (dl2 c hcm).1 q))) l2 fun y hd td yy nd sd => wpAny_pure ?_)
  have sd : Heap.SameBut i2 hc hd := sd
  have od : IsPair hd TO x b := sd.extBut _ _ d9 oc
  refine wpAny_bind (wpAny_seqItems od rfl (wpAny_bind (wpAny_updateSeq_pair od fun he oe se => ?_)))
  have oe : IsPair he TO x y := oe
  refine wpAny_bind (wpAny_letGo (wpAny_pure (wpAny_pure ?_)))
  refine wpAny_bind (wpAny_seqItems oe rfl (wpAny_bind (wpAny_newTuple ?_)))
  have sz : he.objs.size = s.heap.objs.size := by rw [se.1, sd.1, sc.1, sb.1, sa.1]
  have ze : IsZip he z TI TO .ellipsis := se.extBut _ _ d2.symm (sd.extBut _ _ d4.symm (sc.extBut _ _ d2.symm (sb.extBut _ _ d3.symm za)))
  have ke : ∀ c o, c ≠ z → c ≠ TO → c ≠ i1 → c ≠ i2 → s.heap.get? c = some o → he.get? c = some o := fun c o c1 c2 c3 c4 q => se.extBut _ _ c2 (sd.extBut _ _ c4 (sc.extBut _ _ c2 (sb.extBut _ _ c3 (sa.extBut _ _ c1 q))))
  have zl : z < he.objs.size := Heap.lt_size ze
  show wpAny _ _ (Builtin.SmallTypes.ownedTupleHandOut (.ref z) (.ref he.objs.size) >>= _) _ _ _
  refine wpAny_bind ?_
  unfold Builtin.SmallTypes.ownedTupleHandOut
  have zf : IsZip (he.push { cls := .type "tuple", data := .seq #[x, y] }) z TI TO .ellipsis := Heap.get?_push_of_some _ ze
  refine wpAny_bind (wpAny_setField_rec zf (by simp) fun hg zg sg => ?_)
  have zg : IsZip hg z TI TO (rawInt he.objs.size) := zg
  refine wpAny_setField_rec zg (by simp) fun hh zh sh => ?_
  have zh : IsZip hh z TI TO (rawInt he.objs.size) := zh
  have up : ∀ c o, c ≠ z → he.get? c = some o → hh.get? c = some o := fun c o c1 q => sh.extBut _ _ c1 (sg.extBut _ _ c1 (Heap.get?_push_of_some _ q))
  have pr : IsPair hh he.objs.size x y := sh.extBut _ _ (Nat.ne_of_gt zl) (sg.extBut _ _ (Nat.ne_of_gt zl) (Heap.get?_push_size _ rfl))
  rw [sz] at zh pr
  refine wpAny_pure ⟨_, rfl, ?_⟩
  show Q (.ref he.objs.size) _
  rw [sz]
  exact hQ x y hh td yx yy zh (up _ _ d2 oe) (W1.keep nb fun o q => up _ _ d3 (se.extBut _ _ d8.symm (sd.extBut _ _ d10 (sc.extBut _ _ d8.symm q)))) (W2.keep nd fun o q => up _ _ d4 (se.extBut _ _ d9.symm q)) pr fun c o c1 c2 c3 c4 q => up c o c1 (ke c o c1 c2 c3 c4 q)
theorem zn_end {k : Nat} {a b : Value} {Q : Fin → Shared → Prop} (ok : A.handled = none) (W1 : Wlk i1 ls1 n1 Y1 C1 S1) (W2 : Wlk i2 ls2 n2 Y2 C2 S2) (D : Ap z TI TO i1 i2 (ls1 ++ ls2)) (hz : IsZip s.heap z TI TO .none) (hTI : IsPair s.heap TI (.ref i1) (.ref i2)) (hTO : IsPair s.heap TO a b)
    (m1 : S1 k s.heap) (m2 : S2 k s.heap) (c1 : C1 s.heap) (c2 : C2 s.heap) (hend : n1 ≤ k ∨ n2 ≤ k)
    (hE : ∀ h' e tk, (∀ c o, c ≠ z → c ≠ TO → c ≠ i1 → c ≠ i2 → s.heap.get? c = some o → h'.get? c = some o) → (∃ o, h'.get? e = some o ∧ o.cls = .type "StopIteration") → E (.ref e) { s with heap := h', toks := tk }) :
    wpAny (model prog w) A (Builtin.«zip.__next__» ⟨[.ref z], []⟩) Q E s := by
  obtain ⟨d1, d2, d3, d4, d5, d6, d7, d8, d9, d10⟩ := D.d
  have dl1 := fun c hc => D.l c (List.mem_append_left _ hc)
  have dl2 := fun c hc => D.l c (List.mem_append_right _ hc)
  show wpAny _ _ (field (.ref z) 2 >>= _) _ _ _
  refine wpAny_bind (wpAny_field hz rfl (x := .bool false) rfl ?_)
  show wpAny _ _ (field (.ref z) 3 >>= _) _ _ _
  refine wpAny_bind (wpAny_field hz rfl (x := .ref TI) rfl (wpAny_bind (wpAny_seqItems hTI rfl ?_)))
  show wpAny _ _ (Builtin.SmallTypes.ownedTupleIsFree (.ref z) >>= _) _ _ _
  refine wpAny_bind ?_
  unfold Builtin.SmallTypes.ownedTupleIsFree
  refine wpAny_bind (wpAny_field hz rfl (x := .none) rfl (wpAny_pure ?_))
  simp only [if_true]
  refine wpAny_bind (wpAny_rule (wpAny_bind (wpAny_field hz rfl (x := .ref TO) rfl ?_)))
  refine wpAny_bind (wpAny_setField_rec hz (by simp) fun ha za sa => ?_)
  have za : IsZip ha z TI TO .ellipsis := za
  refine wpAny_bind ?_
  simp only [List.zipIdx_cons, List.zipIdx_nil, List.forIn_cons, List.forIn_nil]
  refine wpAny_bind (wpAny_bind (wpAny_onRaise ?_))
  show wpAny _ _ (Builtin.SmallTypes.nextOf (.ref i1) >>= _) _ _ _
  have M1 : S1 k ha := W1.keep m1 fun o q => sa.extBut _ _ d3 q
  have K1 : C1 ha := W1.keepC c1 fun c hc o q => sa.extBut _ _ (dl1 c hc).1 q
  by_cases l1 : n1 ≤ k
  · refine wpAny_bind (W1.done (s := { s with heap := ha }) ok M1 K1 l1 fun hb e eb st => ?_)
    obtain ⟨oe, hoe, hce⟩ := st
    have zb : IsZip hb z TI TO .ellipsis := eb _ _ d3.symm za
    have ez : e ≠ z := fun q => by
      subst q
      rw [zb] at hoe
      cases hoe
      simp at hce
    exact wpAny_setField_rec zb (by simp) fun hc _ sc => hE hc e s.toks (fun c o q1 _ q3 _ x => sc.extBut _ _ q1 (eb _ _ q3 (sa.extBut _ _ q1 x))) ⟨oe, sc.extBut _ _ ez hoe, hce⟩
  · have l2 : n2 ≤ k := by omega
    refine wpAny_bind (W1.item (s := { s with heap := ha }) M1 K1 (by omega) fun x hb tb yx nb sb => wpAny_pure ?_)
    have sb : Heap.SameBut i1 ha hb := sb
    have ob : IsPair hb TO a b := sb.extBut _ _ d8 (sa.extBut _ _ d2 hTO)
    refine wpAny_bind (wpAny_seqItems ob rfl (wpAny_bind (wpAny_updateSeq_pair ob fun hc oc sc => ?_)))
    refine wpAny_bind (wpAny_letGo (wpAny_pure ?_))
    refine wpAny_bind (wpAny_bind (wpAny_onRaise ?_))
    show wpAny _ _ (Builtin.SmallTypes.nextOf (.ref i2) >>= _) _ _ _
    refine wpAny_bind (W2.done (s := { s with heap := hc, toks := tb }) ok (W2.keep m2 fun o q => sc.extBut _ _ d9.symm (sb.extBut _ _ d10.symm (sa.extBut _ _ d4 q))) (W2.keepC c2 fun c hcm o q => sc.extBut _ _ (dl2 c hcm).2.1 (sb.extBut _ _ (dl2 c hcm).2.2.1 (sa.extBut _ _ (dl2 c hcm).1 q))) l2 fun hd e ed st => ?_)
    obtain ⟨oe, hoe, hce⟩ := st
    have zd : IsZip hd z TI TO .ellipsis := ed _ _ d4.symm (sc.extBut _ _ d2.symm (sb.extBut _ _ d3.symm za))
    have ez : e ≠ z := fun q => by
      subst q
      rw [zd] at hoe
      cases hoe
      simp at hce
    exact wpAny_setField_rec zd (by simp) fun he _ se => hE he e tb (fun c o q1 q2 q3 q4 x => se.extBut _ _ q1 (ed _ _ q4 (sc.extBut _ _ q2 (sb.extBut _ _ q3 (sa.extBut _ _ q1 x))))) ⟨oe, se.extBut _ _ ez hoe, hce⟩
end
end DL
namespace DL
open PySem PySem.Spec PyProof.Rows L2
/-- iter(v) is one new object -/
structure ItOf (v : Value) (ob : Obj) (Cn : Heap → Prop) : Prop where
  run : ∀ {prog : Program} {w : World} {A : Around} {E : Value → Shared → Prop} {s : Shared} {Q : Value → Shared → Prop}, Cn s.heap → Q (.ref s.heap.objs.size) { s with heap := s.heap.push ob } → wpAny (model prog w) A (pyIter v) Q E s
  push : ∀ {h : Heap} (o : Obj), Cn h → Cn (h.push o)
theorem io_tup {l : Addr} {its : Array Value} : ItOf (.ref l) { cls := .type "tuple_iterator", data := .fields #[.ref l, .int 0 0] } (fun h => h.IsTuple l its) := ⟨fun c q => wpAny_pyIter_tuple c q, fun o c => Heap.IsTuple.push c o⟩
theorem io_lst {l : Addr} {its : Array Value} : ItOf (.ref l) { cls := .type "list_iterator", data := .fields #[.ref l, .int 0 0] } (fun h => h.IsList l its) := ⟨fun c q => wpAny_pyIter_list c q, fun o c => Heap.IsList.push c o⟩
theorem io_asc {x : Str} {t : Tok} (ha : x.cps.all (· < 128) = true) : ItOf (.str x t) { cls := .type "str_ascii_iterator", data := .fields #[.str x t, .int 0 0] } (fun _ => True) := ⟨fun _ q => wpAny_pyIter_ascii ha q, fun _ _ => trivial⟩
theorem io_wid {x : Str} {t : Tok} (ha : x.cps.all (· < 128) = false) : ItOf (.str x t) { cls := .type "str_iterator", data := .fields #[.str x t, .int 0 0] } (fun _ => True) := ⟨fun _ q => wpAny_pyIter_wide ha q, fun _ _ => trivial⟩
abbrev znH1 (h : Heap) (o1 : Obj) : Heap := h.push o1
abbrev znH2 (h : Heap) (o1 o2 : Obj) : Heap := (znH1 h o1).push o2
abbrev znH3 (h : Heap) (o1 o2 : Obj) : Heap := (znH2 h o1 o2).push { cls := .type "tuple", data := .seq #[.ref h.objs.size, .ref (znH1 h o1).objs.size] }
abbrev znH4 (h : Heap) (o1 o2 : Obj) : Heap := (znH3 h o1 o2).push { cls := .type "tuple", data := .seq #[.none, .none] }
abbrev znH5 (h : Heap) (o1 o2 : Obj) : Heap := (znH4 h o1 o2).push { cls := .type "zip", data := .fields #[.none, .bool false, .bool false, .ref (znH2 h o1 o2).objs.size, .ref (znH3 h o1 o2).objs.size] }
theorem zn_new {v1 v2 : Value} {o1 o2 : Obj} {C1 C2 : Heap → Prop} (I1 : ItOf v1 o1 C1) (I2 : ItOf v2 o2 C2) : Meets (Builtin.«zip.__new__» ⟨[.type "zip", v1, v2], []⟩) (fun _ R s => C1 s.heap ∧ C2 s.heap ∧ R (.ok (.ret (.ref (znH4 s.heap o1 o2).objs.size))) { s with heap := znH5 s.heap o1 o2 }) :=
  .of_wp fun prog w A R s h => by
    obtain ⟨hp, g, d, tk, os⟩ := s
    obtain ⟨t1, t2, h⟩ := h
    have sb := sub_zip
    have T1 : C1 (Shared.heap ⟨hp, g, d, tk, os⟩) := t1
    have T2 : C2 (Shared.heap ⟨hp.push o1, g, d, tk, os⟩) := I2.push o1 t2
    wp_walk using I1.run T1, I2.run T2
    exact ⟨_, rfl, h⟩
section
variable {prog : Program} {w : World} {A : Around} {E : Value → Shared → Prop} {s : Shared} {v1 v2 : Value} {o1 o2 : Obj} {C1 C2 : Heap → Prop}
theorem zn_call {Q : Value → Shared → Prop} (I1 : ItOf v1 o1 C1) (I2 : ItOf v2 o2 C2) (c1 : C1 s.heap) (c2 : C2 s.heap)
    (h : ∀ h', IsZip h' (s.heap.objs.size + 4) (s.heap.objs.size + 2) (s.heap.objs.size + 3) .none → IsPair h' (s.heap.objs.size + 2) (.ref s.heap.objs.size) (.ref (s.heap.objs.size + 1)) → IsPair h' (s.heap.objs.size + 3) .none .none →
      h'.get? s.heap.objs.size = some o1 → h'.get? (s.heap.objs.size + 1) = some o2 → (∀ c o, s.heap.get? c = some o → h'.get? c = some o) → Q (.ref (s.heap.objs.size + 4)) { s with heap := h' }) (f1 : o1.isFreed = false) (f2 : o2.isFreed = false) :
    wpAny (model prog w) A (call (.type "zip") [v1, v2]) Q E s := by
  refine callType_new F.called_zip (by decide) (F.typeCall_zip_2 _ _) (F.newCall_zip_2 _ _) (fun obj => F.args_object_init_3 obj _ _) F.entry_zip_new (zn_new I1 I2) ⟨c1, c2, ?_⟩
  have z1 : (znH1 s.heap o1).objs.size = s.heap.objs.size + 1 := Heap.size_push ..
  have z2 : (znH2 s.heap o1 o2).objs.size = s.heap.objs.size + 2 := by rw [Heap.size_push, z1]
  have z3 : (znH3 s.heap o1 o2).objs.size = s.heap.objs.size + 3 := by rw [Heap.size_push, z2]
  have z4 : (znH4 s.heap o1 o2).objs.size = s.heap.objs.size + 4 := by rw [Heap.size_push, z3]
  have g5 : IsZip (znH5 s.heap o1 o2) (znH4 s.heap o1 o2).objs.size (znH2 s.heap o1 o2).objs.size (znH3 s.heap o1 o2).objs.size .none := Heap.get?_push_size _ rfl
  have g4 : IsPair (znH5 s.heap o1 o2) (znH3 s.heap o1 o2).objs.size .none .none := Heap.get?_push_of_some _ (Heap.get?_push_size _ rfl)
  have g3 : IsPair (znH5 s.heap o1 o2) (znH2 s.heap o1 o2).objs.size (.ref s.heap.objs.size) (.ref (znH1 s.heap o1).objs.size) := Heap.get?_push_of_some _ (Heap.get?_push_of_some _ (Heap.get?_push_size _ rfl))
  have g2 : (znH5 s.heap o1 o2).get? (znH1 s.heap o1).objs.size = some o2 := Heap.get?_push_of_some _ (Heap.get?_push_of_some _ (Heap.get?_push_of_some _ (Heap.get?_push_size _ f2)))
  have g1 : (znH5 s.heap o1 o2).get? s.heap.objs.size = some o1 := Heap.get?_push_of_some _ (Heap.get?_push_of_some _ (Heap.get?_push_of_some _ (Heap.get?_push_of_some _ (Heap.get?_push_size _ f1))))
  have kp5 : ∀ c o, s.heap.get? c = some o → (znH5 s.heap o1 o2).get? c = some o := fun c o q => Heap.get?_push_of_some _ (Heap.get?_push_of_some _ (Heap.get?_push_of_some _ (Heap.get?_push_of_some _ (Heap.get?_push_of_some _ q))))
  show _ ∧ _
  rw [z2, z3, z4] at g5
  rw [z3] at g4
  rw [z2, z1] at g3
  rw [z1] at g2
  rw [z4]
  exact ⟨⟨_, g5, rfl⟩, h _ g5 g3 g4 g1 g2 kp5⟩
variable {z TI TO i1 i2 : Addr} {ls1 ls2 : List Addr} {n1 n2 : Nat} {Y1 Y2 : Nat → Value → Prop} {D1 D2 : Heap → Prop} {S1 S2 : Nat → Heap → Prop}
theorem zn_pyNext {k : Nat} {a b : Value} {Q : Option Value → Shared → Prop} (W1 : Wlk i1 ls1 n1 Y1 D1 S1) (W2 : Wlk i2 ls2 n2 Y2 D2 S2) (D : Ap z TI TO i1 i2 (ls1 ++ ls2)) (hz : IsZip s.heap z TI TO .none) (hTI : IsPair s.heap TI (.ref i1) (.ref i2)) (hTO : IsPair s.heap TO a b)
    (m1 : S1 k s.heap) (m2 : S2 k s.heap) (c1 : D1 s.heap) (c2 : D2 s.heap) (l1 : k < n1) (l2 : k < n2)
    (hQ : ∀ x y h' tk, Y1 k x → Y2 k y → IsZip h' z TI TO (rawInt s.heap.objs.size) → IsPair h' TO x y → S1 (k + 1) h' → S2 (k + 1) h' → IsPair h' s.heap.objs.size x y →
      (∀ c o, c ≠ z → c ≠ TO → c ≠ i1 → c ≠ i2 → s.heap.get? c = some o → h'.get? c = some o) → Q (some (.ref s.heap.objs.size)) { s with heap := h', toks := tk }) : wpAny (model prog w) A (pyNext (.ref z)) Q E s := by
  have hT : s.TypeIs (.ref z) "zip" := ⟨_, hz, rfl⟩
  unfold pyNext
  exact wpAny_bind (wpAny_attempt (wpAny_callSpecial?_slot (name := Str.ofString "__next__") hT F.slot_zip_next (wpAny_call_entry F.slot_zip_next hT F.entry_zip_next (zn_next W1 W2 D hz hTI hTO m1 m2 c1 c2 l1 l2 fun x y h2 tk a1 a2 a3 a4 a5 a6 a7 a8 => wpAny_pure (hQ x y h2 tk a1 a2 a3 a4 a5 a6 a7 a8)) (F.args_zip_next_1 _))))
theorem zn_pyEnd {k : Nat} {a b : Value} {Q : Option Value → Shared → Prop} (ok : A.handled = none) (W1 : Wlk i1 ls1 n1 Y1 D1 S1) (W2 : Wlk i2 ls2 n2 Y2 D2 S2) (D : Ap z TI TO i1 i2 (ls1 ++ ls2)) (hz : IsZip s.heap z TI TO .none) (hTI : IsPair s.heap TI (.ref i1) (.ref i2)) (hTO : IsPair s.heap TO a b)
    (m1 : S1 k s.heap) (m2 : S2 k s.heap) (c1 : D1 s.heap) (c2 : D2 s.heap) (hend : n1 ≤ k ∨ n2 ≤ k)
    (hQ : ∀ h' tk, (∀ c o, c ≠ z → c ≠ TO → c ≠ i1 → c ≠ i2 → s.heap.get? c = some o → h'.get? c = some o) → Q none { s with heap := h', toks := tk }) : wpAny (model prog w) A (pyNext (.ref z)) Q E s := by
  have hT : s.TypeIs (.ref z) "zip" := ⟨_, hz, rfl⟩
  unfold pyNext
  refine wpAny_bind (wpAny_attempt (wpAny_callSpecial?_slot (name := Str.ofString "__next__") hT F.slot_zip_next (wpAny_call_entry F.slot_zip_next hT F.entry_zip_next (zn_end ok W1 W2 D hz hTI hTO m1 m2 c1 c2 hend fun h2 e tk k q => ?_) (F.args_zip_next_1 _))))
  obtain ⟨o, ho, hc⟩ := q
  exact wpAny_bind (wpAny_isInstance (T := "StopIteration") (b := true) ⟨o, ho, hc⟩ isSubtype_stop (wpAny_pure (hQ _ _ k)))
end
/-! ### the parts as values -/
inductive Cp where
  | t (a : Addr)
  | l (a : Addr)
  | s (x : Str)
def Cp.v : Cp → V
  | .t a => .ref a
  | .l a => .ref a
  | .s x => .str x
def CpIt (K : PySem.W.Frag) (H : Hp) : Cp → List V → Prop
  | .t a, xs => SqT K H a xs
  | .l a, xs => SqL K H a xs
  | .s x, xs => xs = strV x
def Itz2 (K : PySem.W.Frag) (c d : Cp) : It :=
  ⟨fun i H => ∃ (xs ys : List V) (x y : V), CpIt K H c xs ∧ CpIt K H d ys ∧ xs[i]? = some x ∧ ys[i]? = some y, fun i H v H' => ∃ T x y, v = .ref T ∧ H T = none ∧ H' = upd H T (.tup [x, y]) ∧ (∀ xs, CpIt K H c xs → xs[i]? = some x) ∧ ∀ ys, CpIt K H d ys → ys[i]? = some y,
    fun i H => ∃ xs ys : List V, CpIt K H c xs ∧ CpIt K H d ys ∧ (xs.length ≤ i ∨ ys.length ≤ i)⟩
/-- a part's walker in a state: what it is by the abstract heap -/
structure Prt (P : Program) (w : World) (K : PySem.W.Frag) (c : Cp) (it : Addr) (L : Addr) (St : Nat → Heap → Prop) : Prop where
  keep : ∀ {k : Nat} {h h' : Heap}, St k h → (∀ o, h.get? it = some o → h'.get? it = some o) → St k h'
  obj : ∀ {k : Nat} {h : Heap}, St k h → ∃ o fs, h.get? it = some o ∧ o.data = .fields fs
  wk : ∀ (X : Cx), X.prog = P → X.w = w → X.K = K → ∀ (pins : List (Addr × Obj)) (s : Shared) (σ : L2.St) (H : Hp) (xs : List V), Inv X pins σ H s → CpIt K H c xs →
    ∃ (ls : List Addr) (Y : Nat → Value → Prop) (Co : Heap → Prop), (∀ c ∈ ls, c < L) ∧ Wlk it ls xs.length Y Co St ∧ Co s.heap ∧ ∀ k v, Y k v → ∃ x, xs[k]? = some x ∧ RelV x v
  inj : ∀ (X : Cx), X.prog = P → X.w = w → X.K = K → ∀ (pins : List (Addr × Obj)) (s : Shared) (σ : L2.St) (H : Hp) (xs ys : List V), Inv X pins σ H s → CpIt K H c xs → CpIt K H c ys → xs = ys
theorem prt_t {P : Program} {w : World} {K : PySem.W.Frag} {a it L : Addr} (hL : a < L) : Prt P w K (.t a) it L (fun k h => h.IsTupleIter it a k) where
  keep := fun st e => st.at e
  obj := fun ⟨o, h1, _, h2⟩ => ⟨o, _, h1, h2⟩
  wk := fun X hP hw hK pins s σ H xs I hq => by
    subst hP hw hK
    obtain ⟨its, rv, t1, _⟩ := I.tuple hq
    have e : its.toArray.size = xs.length := by rw [List.size_toArray]; exact rv.length.symm
    refine ⟨[a], _, _, fun c hc => ?_, e ▸ wk_tup (its := its.toArray), t1, fun k v hv => ?_⟩
    · have : c = a := by simpa using hc
      rw [this]
      exact hL
    · have hv : its[k]? = some v := by simpa using hv
      have il : k < xs.length := by
        rw [rv.length]
        exact (List.getElem?_eq_some_iff.mp hv).1
      obtain ⟨u, hu, ru⟩ := rv.get (List.getElem?_eq_getElem il)
      rw [hv] at hu
      cases hu
      exact ⟨_, List.getElem?_eq_getElem il, ru⟩
  inj := fun X hP hw hK pins s σ H xs ys I h1 h2 => by
    subst hP hw hK
    exact I.tuple_inj h1 h2
end DL
namespace DL
open PySem PySem.Spec PyProof.Rows L2
theorem prt_l {P : Program} {w : World} {K : PySem.W.Frag} {a it L : Addr} (hL : a < L) : Prt P w K (.l a) it L (fun k h => h.IsListIter it a k) where
  keep := fun st e => st.at e
  obj := fun ⟨o, h1, _, h2⟩ => ⟨o, _, h1, h2⟩
  wk := fun X hP hw hK pins s σ H xs I hq => by
    subst hP hw hK
    obtain ⟨its, rv, t1, _⟩ := I.list hq
    have e : its.toArray.size = xs.length := by rw [List.size_toArray]; exact rv.length.symm
    refine ⟨[a], _, _, fun c hc => ?_, e ▸ wk_lst (its := its.toArray), t1.isList, fun k v hv => ?_⟩
    · have : c = a := by simpa using hc
      rw [this]
      exact hL
    · have hv : its[k]? = some v := by simpa using hv
      have il : k < xs.length := by
        rw [rv.length]
        exact (List.getElem?_eq_some_iff.mp hv).1
      obtain ⟨u, hu, ru⟩ := rv.get (List.getElem?_eq_getElem il)
      rw [hv] at hu
      cases hu
      exact ⟨_, List.getElem?_eq_getElem il, ru⟩
  inj := fun X hP hw hK pins s σ H xs ys I h1 h2 => by
    subst hP hw hK
    exact I.list_inj h1 h2
theorem strV_len (x : Str) : (strV x).length = x.cps.size := by rw [strV, List.length_map, Array.length_toList]
theorem prt_s {P : Program} {w : World} {K : PySem.W.Frag} {x : Str} {t : Tok} {it L : Addr} {ty : String} (hty : ty = "str_ascii_iterator" ∨ ty = "str_iterator") : Prt P w K (.s x) it L (fun k h => h.IsStrIter it ty x t k) where
  keep := fun ⟨o, h1, h2⟩ e => ⟨o, e o h1, h2⟩
  obj := fun ⟨o, h1, _, h2⟩ => ⟨o, _, h1, h2⟩
  wk := fun X hP hw hK pins s σ H xs I hq => by
    subst hP hw hK
    have hq : xs = strV x := hq
    subst hq
    have wk : Wlk it [] (strV x).length (fun k v => ∃ c u, x.cps[k]? = some c ∧ v = .str ⟨#[c]⟩ u) (fun _ => True) (fun k h => h.IsStrIter it ty x t k) := by
      rw [strV_len]
      rcases hty with rfl | rfl
      · exact wk_asc
      · exact wk_wid
    refine ⟨[], _, _, (fun c hc => absurd hc (by simp)), wk, trivial, fun k v hv => ?_⟩
    obtain ⟨c, u, hc, rfl⟩ := hv
    refine ⟨.str ⟨#[c]⟩, ?_, u, rfl⟩
    rw [strV, List.getElem?_map, Array.getElem?_toList, hc]
    rfl
  inj := fun X hP hw hK pins s σ H xs ys I h1 h2 => by
    have h1 : xs = strV x := h1
    have h2 : ys = strV x := h2
    rw [h1, h2]
theorem ap_lt (I c : Nat) (h : c < I) : c ≠ I + 4 ∧ c ≠ I + 3 ∧ c ≠ I ∧ c ≠ I + 1 := by omega
theorem ap_4 (I j : Nat) (h : j < 4) : I + j ≠ I + 4 := by omega
theorem ap_5 (I c n : Nat) (h : c = I + 4 ∨ c = I + 2 ∨ c = I + 3 ∨ c = I ∨ c = I + 1) (h2 : I + 4 < n) : c < n := by omega
theorem turn_zip2 {P : Program} {w : World} {K : PySem.W.Frag} {elts : List Expr} {kk : Nat} {tpos : Pos} {I0 : Addr} {c d : Cp} {S1 S2 : Nat → Heap → Prop} (p1 : Prt P w K c I0 I0 S1) (p2 : Prt P w K d (I0 + 1) I0 S2) :
    Turn P w K (.Tuple elts kk tpos) (Itz2 K c d) [I0 + 4, I0 + 2, I0 + 3, I0, I0 + 1] (I0 + 4) (fun i h => IsZip h (I0 + 4) (I0 + 2) (I0 + 3) .none ∧ IsPair h (I0 + 2) (.ref I0) (.ref (I0 + 1)) ∧ (∃ x y, IsPair h (I0 + 3) x y) ∧ S1 i h ∧ S2 i h) where
  mem := by simp
  obj := fun i h st b hb => by
    obtain ⟨hz, hTI, ⟨x, y, hTO⟩, m1, m2⟩ := st
    obtain ⟨o1, f1, e1, q1⟩ := p1.obj m1
    obtain ⟨o2, f2, e2, q2⟩ := p2.obj m2
    simp only [List.mem_cons, List.not_mem_nil, or_false] at hb
    rcases hb with rfl | rfl | rfl | rfl | rfl
    · exact ⟨_, hz, fun v q => nomatch q⟩
    · exact ⟨_, hTI, fun v q => nomatch q⟩
    · exact ⟨_, hTO, fun v q => nomatch q⟩
    · exact ⟨o1, e1, fun v q => by rw [q1] at q; cases q⟩
    · exact ⟨o2, e2, fun v q => by rw [q2] at q; cases q⟩
  keep := fun i h h' st k => by
    obtain ⟨hz, hTI, ⟨x, y, hTO⟩, m1, m2⟩ := st
    exact ⟨k (I0 + 4) (by simp) _ hz, k (I0 + 2) (by simp) _ hTI, ⟨x, y, k (I0 + 3) (by simp) _ hTO⟩, p1.keep m1 fun o q => k I0 (by simp) o q, p2.keep m2 fun o q => k (I0 + 1) (by simp) o q⟩
  item := by
    intro X hP hw hK hc i pins s σ H E I hf st hg
    obtain ⟨hz, hTI, ⟨x0, y0, hTO⟩, m1, m2⟩ := st
    obtain ⟨xs, ys, x, y, hqx, hqy, hx, hy⟩ := hg
    obtain ⟨ls1, Y1, C1, a1, W1, co1, y1⟩ := p1.wk X hP hw hK pins s σ H xs I hqx
    obtain ⟨ls2, Y2, C2, a2, W2, co2, y2⟩ := p2.wk X hP hw hK pins s σ H ys I hqy
    have inj1 := fun l (hl : CpIt K H c l) => p1.inj X hP hw hK pins s σ H l xs I hl hqx
    have inj2 := fun l (hl : CpIt K H d l) => p2.inj X hP hw hK pins s σ H l ys I hl hqy
    subst hP hw hK
    have zl : I0 + 4 < s.heap.objs.size := Heap.lt_size hz
    have D : Ap (I0 + 4) (I0 + 2) (I0 + 3) I0 (I0 + 1) (ls1 ++ ls2) := ⟨by simp, fun c hc => by
      have : c < I0 := by
        rcases List.mem_append.mp hc with h | h
        · exact a1 c h
        · exact a2 c h
      exact ap_lt I0 c this⟩
    refine zn_pyNext W1 W2 D hz hTI hTO m1 m2 co1 co2 (List.getElem?_eq_some_iff.mp hx).1 (List.getElem?_eq_some_iff.mp hy).1 fun u u2 h2 tk yu yu2 z2 o2 n1 n2 hT hk => ?_
    obtain ⟨x', ex, ru⟩ := y1 i u yu
    obtain ⟨y', ey, ru2⟩ := y2 i u2 yu2
    rw [hx] at ex
    cases ex
    rw [hy] at ey
    cases ey
    refine ⟨_, rfl, wpAny_letOwnedTupleGo_zip (s := { s with heap := h2, toks := tk }) z2 fun h3 z3 sb => ?_⟩
    have hT3 : h3.get? s.heap.objs.size = some { cls := .type "tuple", data := .seq #[u, u2] } := (sb.2 _ (Nat.ne_of_gt zl)).trans hT
    have nw : ObjOk X.prog X.w (upd H s.heap.objs.size (.tup [x, y])) h3 s.heap.objs.size (.tup [x, y]) := ⟨by show 2 ≤ sizeLine; decide, [u, u2], .cons ru (.cons ru2 .nil), ⟨_, hT3, rfl, _, rfl⟩⟩
    have I1 : Inv X pins σ (upd H s.heap.objs.size (.tup [x, y])) { s with heap := h3, toks := tk } := by
      refine I.turnedNew (t' := tk) (ch := [I0 + 4, I0 + 2, I0 + 3, I0, I0 + 1]) (fun c o hb q => ?_) hf (Nat.le_refl _) nw
      simp only [List.mem_cons, List.not_mem_nil, or_false, not_or] at hb
      exact (sb.2 c hb.1).trans (hk c o hb.1 hb.2.2.1 hb.2.2.2.1 hb.2.2.2.2 q)
    have e4 : ∀ j : Nat, j < 4 → I0 + j ≠ I0 + 4 := ap_4 I0
    refine ⟨.ref s.heap.objs.size, _, I1, rfl, ⟨_, x, y, rfl, I.hok.fresh (Nat.le_refl _), rfl, fun l hl => by rw [inj1 l hl]; exact hx, fun l hl => by rw [inj2 l hl]; exact hy⟩, ⟨z3, ?_, ⟨u, u2, ?_⟩, ?_, ?_⟩, fun c hcm => ?_⟩
    · exact (sb.2 _ (e4 2 (by omega))).trans (hk _ _ (e4 2 (by omega)) (by simp) (by simp) (by simp) hTI)
    · exact (sb.2 _ (e4 3 (by omega))).trans o2
    · exact p1.keep n1 fun o q => (sb.2 _ (by simp)).trans q
    · exact p2.keep n2 fun o q => (sb.2 _ (by simp)).trans q
    · have : c < s.heap.objs.size := by
        simp only [List.mem_cons, List.not_mem_nil, or_false] at hcm
        exact ap_5 I0 c _ hcm zl
      rw [upd_ne (Nat.ne_of_lt this)]
      exact (hf c hcm).1
  done := by
    intro X hP hw hK hc i pins s σ H E I hf st hg
    obtain ⟨hz, hTI, ⟨x0, y0, hTO⟩, m1, m2⟩ := st
    obtain ⟨xs, ys, hqx, hqy, e12⟩ := hg
    obtain ⟨ls1, Y1, C1, a1, W1, co1, y1⟩ := p1.wk X hP hw hK pins s σ H xs I hqx
    obtain ⟨ls2, Y2, C2, a2, W2, co2, y2⟩ := p2.wk X hP hw hK pins s σ H ys I hqy
    subst hP hw hK
    have D : Ap (I0 + 4) (I0 + 2) (I0 + 3) I0 (I0 + 1) (ls1 ++ ls2) := ⟨by simp, fun c hc => by
      have : c < I0 := by
        rcases List.mem_append.mp hc with h | h
        · exact a1 c h
        · exact a2 c h
      exact ap_lt I0 c this⟩
    refine zn_pyEnd (I.ok.hd hc) W1 W2 D hz hTI hTO m1 m2 co1 co2 e12 fun h2 tk hk => ⟨rfl, ?_⟩
    refine I.turnedL (t' := tk) (ch := [I0 + 4, I0 + 2, I0 + 3, I0, I0 + 1]) (fun c o hb q => ?_) hf
    simp only [List.mem_cons, List.not_mem_nil, or_false, not_or] at hb
    exact hk c o hb.1 hb.2.2.1 hb.2.2.2.1 hb.2.2.2.2 q
  self := fun A i s Q E st h => wpAny_pyIter_zip st.1 h
end DL
namespace DL
open PySem PySem.Spec PyProof.Rows L2
theorem cp_start {X : Cx} {pins : List (Addr × Obj)} {σ : L2.St} {H : Hp} {s : Shared} (I : Inv X pins σ H s) {c : Cp} {xs : List V} (hq : CpIt X.K H c xs) {u : Value} (r : RelV c.v u) :
    ∃ ob Cn, ItOf u ob Cn ∧ Cn s.heap ∧ ob.isFreed = false ∧ ∀ it, ∃ St, Prt X.prog X.w X.K c it s.heap.objs.size St ∧ ∀ h' : Heap, h'.get? it = some ob → St 0 h' := by
  cases c with
  | t a =>
    cases r
    obtain ⟨its, rv, t1, _⟩ := I.tuple hq
    have la : a < s.heap.objs.size := by
      obtain ⟨o, ho, _⟩ := t1
      exact Heap.lt_size ho
    exact ⟨_, _, io_tup (its := its.toArray), t1, rfl, fun it => ⟨_, prt_t la, fun h' e => ⟨_, e, rfl, rfl⟩⟩⟩
  | l a =>
    cases r
    obtain ⟨its, rv, t1, _⟩ := I.list hq
    exact ⟨_, _, io_lst (its := its.toArray), t1.isList, rfl, fun it => ⟨_, prt_l t1.lt, fun h' e => ⟨_, e, rfl, rfl⟩⟩⟩
  | s x =>
    obtain ⟨t, rfl⟩ := r
    cases ha : x.cps.all (· < 128) with
    | true => exact ⟨_, _, io_asc ha, trivial, rfl, fun it => ⟨_, prt_s (t := t) (.inl rfl), fun h' e => ⟨_, e, rfl, rfl⟩⟩⟩
    | false => exact ⟨_, _, io_wid ha, trivial, rfl, fun it => ⟨_, prt_s (t := t) (.inr rfl), fun h' e => ⟨_, e, rfl, rfl⟩⟩⟩
def iZip2 (K : PySem.W.Frag) (ta : TA) : TI := fun σ H R => ta σ H fun vs H1 => ∃ c d xs ys, vs = [c.v, d.v] ∧ CpIt K H1 c xs ∧ CpIt K H1 d ys ∧ R (Itz2 K c d) H1
theorem pi_zip2 {X : Cx} {e e2 : Expr} {ta : TA} {p pos tpos : Pos} {elts : List Expr} {kk : Nat} (hg : Gl X "zip") (hm : X.mg "zip" = none) (ha : PA X [e, e2] ta)
    (hs : starEach [e, e2] X.env = (false, eval e X.env) :: starEach [e2] X.env := by rfl) (hpl : (backTo pos (starEach [e2] X.env)).any (·.1) = false := by rfl) :
    PI X (.Tuple elts kk tpos) (.Call (.Name "zip" p) [e, e2] [] pos) (iZip2 X.K ta) := by
  refine ⟨fun pins s σ H R I h => ?_⟩
  refine Call_ (ld_blt I hg hm boot_zip (callWith_type1 (thn (ha.run pos pins s σ H _ I h) fun us s1 ⟨vs, H1, I1, r1, q1⟩ => ?_) hs hpl))
  obtain ⟨c, d, xs, ys, rfl, hc, hd, q⟩ := q1
  cases r1 with
  | cons ra rr =>
    cases rr with
    | cons rb rr =>
      cases rr
      obtain ⟨o1, C1, i1, c1, f1, k1⟩ := cp_start I1 hc ra
      obtain ⟨o2, C2, i2, c2, f2, k2⟩ := cp_start I1 hd rb
      obtain ⟨S1, p1, z1⟩ := k1 s1.heap.objs.size
      obtain ⟨S2, p2, z2⟩ := k2 (s1.heap.objs.size + 1)
      refine zn_call i1 i2 c1 c2 (fun h' hz hTI hTO g1 g2 hk => wpAny_pyIter_zip hz ?_) f1 f2
      have I2 : Inv X pins σ H1 { s1 with heap := h' } := I1.kept (t' := s1.toks) hk
      refine ⟨s1.heap.objs.size + 4, [s1.heap.objs.size + 4, s1.heap.objs.size + 2, s1.heap.objs.size + 3, s1.heap.objs.size, s1.heap.objs.size + 1], _, _, H1, rfl, I2, turn_zip2 p1 p2, ⟨hz, hTI, ⟨_, _, hTO⟩, z1 _ g1, z2 _ g2⟩, fun c hcm => ?_, q⟩
      have le : s1.heap.objs.size ≤ c := by
        simp only [List.mem_cons, List.not_mem_nil, or_false] at hcm
        rcases hcm with rfl | rfl | rfl | rfl | rfl
        · exact Nat.le_add_right _ _
        · exact Nat.le_add_right _ _
        · exact Nat.le_add_right _ _
        · exact Nat.le_refl _
        · exact Nat.le_add_right _ _
      exact I1.fpOk le (I1.hok.fresh le)
/-! ### at the level of data -/
def itD : D → Option (List D)
  | .list xs => some xs
  | .tuple xs => some xs
  | .str z => some (strD z)
  | _ => none
theorem cp_of {K : PySem.W.Frag} {G : Hp} {v : V} {x : D} {xs : List D} (d : Dr K G v x) (h : itD x = some xs) : ∃ c us, v = Cp.v c ∧ (∀ G1, Same G G1 → CpIt K G1 c us) ∧ DrAll K G us xs := by
  cases x with
  | list ys =>
    cases h
    obtain ⟨a, vs, rfl, h1, h2⟩ := dp_lst d
    exact ⟨.l a, vs, rfl, fun G1 s => SqL.of (s _ _ h1), h2⟩
  | tuple ys =>
    cases h
    obtain ⟨a, vs, rfl, h1, h2⟩ := dp_tup d
    exact ⟨.t a, vs, rfl, fun G1 s => same_sqT s h1, h2⟩
  | str z =>
    cases h
    cases dp_str d
    exact ⟨.s z, strV z, rfl, fun _ _ => rfl, dr_signs z⟩
  | _ => cases h
theorem itd_zip2 {K : PySem.W.Frag} {G : Hp} {c d : Cp} {us ws : List V} {xs ys : List D} (h1 : ∀ G1, Same G G1 → CpIt K G1 c us) (h2 : DrAll K G us xs) (k1 : ∀ G1, Same G G1 → CpIt K G1 d ws) (k2 : DrAll K G ws ys) : ItD K G (Itz2 K c d) (zipD xs ys) := fun G1 H1 s1 s2 i => by
  have q := h1 H1 (s1.trans s2)
  have r := k1 H1 (s1.trans s2)
  refine ⟨fun v hv => ?_, fun hle => ?_⟩
  · obtain ⟨x, y, hx, hy, rfl⟩ := zipD_get hv
    obtain ⟨u, eu, du⟩ := dpAll_get h2 hx
    obtain ⟨t, et, dt⟩ := dpAll_get k2 hy
    refine ⟨⟨us, ws, u, t, q, r, eu, et⟩, fun v2 H2 z => ?_⟩
    obtain ⟨T, x2, y2, rfl, hT, rfl, z1, z2⟩ := z
    have e1 := z1 us q
    have e2 := z2 ws r
    rw [eu] at e1
    rw [et] at e2
    cases e1
    cases e2
    have sg := s1.trans (same_upd (o := .tup [u, t]) (s2.free hT))
    exact ⟨_, Grow.new1 s2 hT, .tup (SqT.of upd_same) (.cons (dp_same sg du) (.cons (dp_same sg dt) .nil))⟩
  · unfold zipD at hle
    rw [List.length_zipWith] at hle
    refine ⟨us, ws, q, r, ?_⟩
    rw [dpAll_len h2, dpAll_len k2]
    omega
def miZip2 (a : MA) : MI := fun env P => a env fun as e1 => match as with
  | [.d x, .d y] => ∃ xs ys, itD x = some xs ∧ itD y = some ys ∧ P (zipD xs ys) e1
  | _ => False
theorem gi_zip2 {X : Cx} {e e2 : Expr} {m1 : MA} {n1 : Nat} {p pos tpos : Pos} {elts : List Expr} {kk : Nat} (hg : Gl X "zip") (hm : X.mg "zip" = none) (ha : GA X [e, e2] n1 m1) (hs : starEach [e, e2] X.env = (false, eval e X.env) :: starEach [e2] X.env := by rfl) (hpl : (backTo pos (starEach [e2] X.env)).any (·.1) = false := by rfl) :
    GI X (.Tuple elts kk tpos) (.Call (.Name "zip" p) [e, e2] [] pos) n1 (miZip2 m1) := pi_imp (pi_zip2 hg hm ha hs hpl) fun σ H R h => by
  obtain ⟨W, B, G0, H0, G, env, P, Rl, hm1, q⟩ := h
  refine ⟨W, B, G0, H0, G, env, _, Rl, hm1, fun as e1 us G1 H1 p1 s1 R1 a1 => ?_⟩
  split at p1
  · obtain ⟨xs, ys, hx, hy, hP⟩ := p1
    cases a1 with
    | cons x1 y1 =>
      cases y1 with
      | cons y1 z1 =>
        cases z1
        obtain ⟨c, vs, rfl, h1, h2⟩ := cp_of x1 hx
        obtain ⟨d, ws, rfl, k1, k2⟩ := cp_of y1 hy
        exact ⟨c, d, vs, ws, rfl, h1 _ R1.pub, k1 _ R1.pub, q _ _ _ _ _ hP s1 R1 (itd_zip2 h1 h2 k1 k2)⟩
  · exact p1.elim
/-! ### x is True, x is not True -/
end DL
namespace DL
open PySem PySem.Spec PyProof.Rows L2
/-! ### an own list + a list: the own one stays -/
def mAddO (i : Nat) (mb : ME) : MF := fun env P => (∃ xs, env[i]? = some (.own xs)) ∧ mb env fun y e1 => match e1[i]?, y with
  | some (.mo none (.lst xs)), .list ys => xs.length + ys.length ≤ sizeLine ∧ P (xs ++ ys) e1
  | _, _ => False
section
variable {X : Cx} {b : Expr} {nb : Nat} {mb : ME} {pos pos' : Pos}
theorem gf_addO (i : Nat) {x : Str} (hb : GE X b nb mb) (hN : X.N[i]? = some x := by rfl) (hv : Vis X.env.scope x := by first | exact Or.inl rfl | exact Or.inr (Or.inl rfl) | exact Or.inr (Or.inr rfl)) (hd : (x == ("__debug__" : Str)) = false := by decide)
    (hcd : (x == ("__classdict__" : Str)) = false := by decide) : GF X (.BinOp (.Name x pos') .Add b pos) nb (mAddO i mb) := pe_imp (pe_op op_cat (pe_var hN hv hd hcd) hb) fun σ H Q h => by
  obtain ⟨W, B, G0, H0, G, env, P, R, ⟨⟨xs, hx⟩, hm⟩, q⟩ := h
  obtain ⟨l, vs, e1, hl, hg, h0, hmu, hq⟩ := R.get_own hx
  refine ⟨_, e1, W, B, G0, H0, G, env, _, R, hm, fun y e2 u G2 H2 p2 s2 R2 d2 => ?_⟩
  split at p2
  · rename_i ys zs hy
    obtain ⟨l2, us, f1, hl2, hg2, h02, hmu2, hq2⟩ := R2.get_own hy
    rw [e1] at f1
    cases f1
    obtain ⟨b1, ws, rfl, h3, h4⟩ := dp_lst d2
    refine ⟨l, b1, us, ws, rfl, rfl, hl2, R2.pub _ _ h3, by rw [dpAll_len hq2, dpAll_len h4]; exact p2.1, fun p hp => ?_⟩
    obtain ⟨R3, f1, f2, f3, f4⟩ := R2.fresh (o := .lst (us ++ ws)) hp
    exact q _ e2 _ _ _ p2.2 s2 R3 ⟨_, upd_same, f1, f2, f3, f4, dpAll_app hq2 h4⟩
  · exact p2.elim
end
/-! ### x is True, x is not True: truths alone -/
def cIsB : D → D → (Bool → Prop) → Prop
  | .bool a, .bool b, P => P (a == b)
  | _, _, _ => False
def cNotB : D → D → (Bool → Prop) → Prop
  | .bool a, .bool b, P => P (!(a == b))
  | _, _, _ => False
section
variable {X : Cx}
theorem od_isB : OpR X (compareOp .Is) (rDC2 X.K cIsB) := by
  intro pins s σ H x y v u Q I rx ry h
  obtain ⟨G, dx, dy, P, sG, d1, d2, hf, q⟩ := h
  unfold cIsB at hf
  split at hf
  · cases dp_bl d1
    cases dp_bl d2
    cases rx
    cases ry
    have q2 := q _ hf
    rename_i a b
    refine wpAny_bind (wpAny_of_eq (a := (a == b)) (by cases a <;> cases b <;> rfl) (wpAny_pure ⟨.bl (a == b), H, I, rfl, q2⟩))
  · exact hf.elim
theorem od_notB : OpR X (compareOp .IsNot) (rDC2 X.K cNotB) := by
  intro pins s σ H x y v u Q I rx ry h
  obtain ⟨G, dx, dy, P, sG, d1, d2, hf, q⟩ := h
  unfold cNotB at hf
  split at hf
  · cases dp_bl d1
    cases dp_bl d2
    cases rx
    cases ry
    have q2 := q _ hf
    rename_i a b
    refine wpAny_bind (wpAny_of_eq (a := (a == b)) (by cases a <;> cases b <;> rfl) (wpAny_pure ⟨.bl (!(a == b)), H, I, rfl, q2⟩))
  · exact hf.elim
end
end DL
namespace DL
open PySem PySem.Spec PyProof.Rows L2
/-! ### data with greater numbers, empty dicts -/
mutual
def mids : D → Bool
  | .none => true
  | .bool _ => true
  | .int i => decide (i.natAbs < 2 ^ 136)
  | .str z => decide (z.cps.size ≤ 100) && z.cps.toList.all fun c => decide (c < 16 ^ 8)
  | .list xs => midsA xs
  | .tuple xs => midsA xs
  | .dict [] => true
  | .dict (_ :: _) => false
def midsA : List D → Bool
  | [] => true
  | x :: r => mids x && midsA r
end
theorem shown_mid {i : Int} (h : i.natAbs < 2 ^ 136) : (PyData.shown (.int i)).length ≤ 44 := by
  have e := int_text_length_le10 (k := 43) (by decide) (Nat.lt_trans h (by decide))
  show (Str.ofString (toString i)).length ≤ 44
  rw [PySem.ofString_length]
  exact e
mutual
theorem mids_show : ∀ x : D, mids x = true → x.showable = true ∧ x.leavesShort 50 = true ∧ x.weight + 1 ≤ 142 * nods x
  | .none, _ => ⟨rfl, rfl, by simp [PyData.weight, nods]⟩
  | .bool _, _ => ⟨rfl, rfl, by simp [PyData.weight, nods]⟩
  | .int i, h => by
    have h : i.natAbs < 2 ^ 136 := by simpa [mids] using h
    have l : i.natAbs.log2 ≤ 135 := by
      by_cases z : i.natAbs = 0
      · rw [z]
        decide
      · have := (Nat.log2_lt z (k := 136)).mpr h
        omega
    refine ⟨?_, ?_, ?_⟩
    · simp only [PyData.showable, decide_eq_true_eq]
      omega
    · simp only [PyData.leavesShort]
      exact decide_eq_true (Nat.le_trans (shown_mid h) (by decide))
    · simp only [PyData.weight, nods]
      split <;> omega
  | .str z, h => by
    simp only [mids, Bool.and_eq_true, decide_eq_true_eq] at h
    refine ⟨rfl, h.2, ?_⟩
    simp only [PyData.weight, nods]
    omega
  | .tuple xs, h => by
    obtain ⟨h1, h3, h4⟩ := midsA_show xs (by simpa [mids] using h)
    refine ⟨by simpa [PyData.showable] using h1, by simpa [PyData.leavesShort] using h3, ?_⟩
    simp only [PyData.weight, nods]
    omega
  | .list xs, h => by
    obtain ⟨h1, h3, h4⟩ := midsA_show xs (by simpa [mids] using h)
    refine ⟨by simpa [PyData.showable] using h1, by simpa [PyData.leavesShort] using h3, ?_⟩
    simp only [PyData.weight, nods]
    omega
  | .dict [], _ => ⟨rfl, rfl, by simp [PyData.weight, PyData.weightKv, nods]⟩
  | .dict (_ :: _), h => by simp [mids] at h
theorem midsA_show : ∀ xs : List D, midsA xs = true → PyData.showableAll xs = true ∧ PyData.leavesShortAll 50 xs = true ∧ PyData.weightAll xs ≤ 142 * nodsA xs
  | [], _ => ⟨rfl, rfl, by simp [PyData.weightAll]⟩
  | x :: r, h => by
    simp only [midsA, Bool.and_eq_true] at h
    obtain ⟨a1, a3, a4⟩ := mids_show x h.1
    obtain ⟨b1, b3, b4⟩ := midsA_show r h.2
    refine ⟨by simp [PyData.showableAll, a1, b1], by simp [PyData.leavesShortAll, a3, b3], ?_⟩
    simp only [PyData.weightAll, nodsA]
    omega
end
/-- of middle size: d deep, n parts -/
def Md (d n : Nat) (x : D) : Prop := mids x = true ∧ x.depth ≤ d ∧ nods x ≤ n
def MdA (d n : Nat) (xs : List D) : Prop := midsA xs = true ∧ PyData.depthAll xs ≤ d ∧ nodsA xs ≤ n
theorem Md.repr {d n : Nat} {x : D} (h : Md d n x) (hd : d ≤ 60) (hn : n ≤ 2200) : x.showable = true ∧ x.depth ≤ 60 ∧ x.shown.length ≤ sizeLine := by
  obtain ⟨h1, h3, h4⟩ := mids_show x h.1
  have hs := PyData.shown_le 50 (by decide) x h3
  have n2 := h.2.2
  refine ⟨h1, Nat.le_trans h.2.1 hd, ?_⟩
  rw [sizeLine_eq]
  omega
theorem Md.le {d n d' n' : Nat} {x : D} (h : Md d n x) (hd : d ≤ d') (hn : n ≤ n') : Md d' n' x := ⟨h.1, Nat.le_trans h.2.1 hd, Nat.le_trans h.2.2 hn⟩
theorem MdA.le {d n d' n' : Nat} {x : List D} (h : MdA d n x) (hd : d ≤ d') (hn : n ≤ n') : MdA d' n' x := ⟨h.1, Nat.le_trans h.2.1 hd, Nat.le_trans h.2.2 hn⟩
theorem md_int {i : Int} (h : i.natAbs < 2 ^ 136) : Md 0 1 (.int i) := ⟨by simpa [mids] using h, by simp [PyData.depth], by simp [nods]⟩
theorem md_nil {d n : Nat} : MdA d n [] := ⟨rfl, by simp [PyData.depthAll], by simp [nodsA]⟩
theorem md_cons {d n m : Nat} {x : D} {xs : List D} (h : Md d n x) (t : MdA d m xs) : MdA d (n + m) (x :: xs) :=
  ⟨by rw [midsA, h.1, t.1]; rfl, by rw [PyData.depthAll]; exact Nat.max_le.mpr ⟨h.2.1, t.2.1⟩, by rw [nodsA]; exact Nat.add_le_add h.2.2 t.2.2⟩
theorem md_tup {d n : Nat} {xs : List D} (h : MdA d n xs) : Md (d + 1) (n + 1) (.tuple xs) :=
  ⟨by rw [mids]; exact h.1, by rw [PyData.depth]; exact Nat.add_le_add_right h.2.1 1, by rw [nods]; exact Nat.add_le_add_right h.2.2 1⟩
theorem md_lst {d n : Nat} {xs : List D} (h : MdA d n xs) : Md (d + 1) (n + 1) (.list xs) :=
  ⟨by rw [mids]; exact h.1, by rw [PyData.depth]; exact Nat.add_le_add_right h.2.1 1, by rw [nods]; exact Nat.add_le_add_right h.2.2 1⟩
theorem md_all {d n : Nat} : ∀ {xs : List D}, (∀ x ∈ xs, Md d n x) → MdA d (n * xs.length) xs
  | [], _ => md_nil
  | x :: xs, h => by
    have := md_cons (h x List.mem_cons_self) (md_all (xs := xs) fun y hy => h y (List.mem_cons_of_mem _ hy))
    refine this.le (Nat.le_refl _) ?_
    rw [List.length_cons, Nat.mul_add]
    omega
theorem mdA_app {d n m : Nat} : ∀ {xs ys : List D}, MdA d n xs → MdA d m ys → MdA d (n + m) (xs ++ ys)
  | [], ys, _, h => h.le (Nat.le_refl _) (by omega)
  | x :: xs, ys, h, h2 => by
    obtain ⟨h1, hd, hn⟩ := h
    simp only [midsA, Bool.and_eq_true] at h1
    rw [PyData.depthAll] at hd
    rw [nodsA] at hn
    have t := mdA_app (n := nodsA xs) (xs := xs) ⟨h1.2, Nat.le_trans (Nat.le_max_right _ _) hd, Nat.le_refl _⟩ h2
    have := md_cons (n := nods x) ⟨h1.1, Nat.le_trans (Nat.le_max_left _ _) hd, Nat.le_refl _⟩ t
    exact this.le (Nat.le_refl _) (by omega)
end DL
namespace DL
open PySem PySem.Spec PyProof.Rows L2
/-! ### repr of any data: lists and dicts within one another -/
structure Rp (P : Program) (w : World) (h : Heap) (u : Value) (d : D) : Prop where
  ex : ∃ as bs, Reads h u d as ∧ ReadAtMost h d.depth bs ∧ ReprK P w bs h d.depth u d.shown
  top : ∀ a, u = .ref a → ∃ T i, ShowsBy P w h a d T i
structure RpA (P : Program) (w : World) (h : Heap) (us : List Value) (ds : List D) : Prop where
  ex : ∃ as bs, ReadsAll h us ds as ∧ ReadAtMost h (PyData.depthAll ds) bs ∧ ReprAllK P w bs h (PyData.depthAll ds) us (PyData.shownAll ds)
section
variable {P : Program} {w : World} {h : Heap}
theorem Rp.flat {u : Value} {d : D} (r : Reads h u d []) (n : d.depth = 0) (i : ReprIs P w u d.shown) (hu : ∀ a, u ≠ .ref a) : Rp P w h u d :=
  ⟨⟨[], [], r, fun _ z => (nomatch z), ReprK.of_is i _ _ _⟩, fun a e => absurd e (hu a)⟩
theorem RpA.nil : RpA P w h [] [] := ⟨⟨_, [], .nil, fun _ z => (nomatch z), by rw [PyData.shownAll]; exact .nil⟩⟩
theorem RpA.cons {u : Value} {us : List Value} {d : D} {ds : List D} (x : Rp P w h u d) (t : RpA P w h us ds) : RpA P w h (u :: us) (d :: ds) := by
  obtain ⟨a1, b1, r1, m1, k1⟩ := x.ex
  obtain ⟨a2, b2, r2, m2, k2⟩ := t.ex
  have l1 : d.depth ≤ PyData.depthAll (d :: ds) := by
    rw [PyData.depthAll]
    exact Nat.le_max_left _ _
  have l2 : PyData.depthAll ds ≤ PyData.depthAll (d :: ds) := by
    rw [PyData.depthAll]
    exact Nat.le_max_right _ _
  refine ⟨⟨_, b1 ++ b2, .cons r1 r2, (m1.mono l1).append (m2.mono l2), ?_⟩⟩
  rw [PyData.shownAll]
  exact .cons ((k1.more fun b hb => List.mem_append_left _ hb).level_le l1) (k2.more_le (fun b hb => List.mem_append_right _ hb) l2)
theorem Rp.lst {a : Addr} {o : Obj} {us : List Value} {n : Nat} {ds : List D} (ho : h.get? a = some o) (hc : o.cls = .type "list") (hd : o.data = .seq us.toArray n) (t : RpA P w h us ds) (hz : (PyData.list ds).shown.length ≤ sizeLine) : Rp P w h (.ref a) (.list ds) := by
  obtain ⟨as, bs, r, m, k⟩ := t.ex
  have hz2 : (listText (PyData.shownAll ds)).length ≤ sizeLine := by rw [PyData.shown] at hz; exact hz
  have rd : Reads h (.ref a) (.list ds) _ := .list ho hc hd r
  have dp : (PyData.list ds).depth = PyData.depthAll ds + 1 := by rw [PyData.depth]
  have sh : (PyData.list ds).shown = listText (PyData.shownAll ds) := by rw [PyData.shown]
  have hna : a ∉ bs := not_mem_of_deeper rd (by omega) m
  cases us with
  | nil =>
    cases r
    have e : (PyData.list []).shown = "[]" := by rw [PyData.shown, PyData.shownAll, listText_nil]
    refine ⟨⟨_, [a], rd, ReadAtMost.cons rd (n := 0) (by omega) (fun _ z => (nomatch z)), ?_⟩, fun a' ea => ⟨"list", "list.__repr__", F.slot_list_repr.toG, F.slot_list_str, F.slot_list_format, fun s hk => ?_, fun A E s Q hg hu hk hQ => ?_⟩⟩
    · rw [e]
      exact ReprK.listEmpty ho hc hd
    · cases ea
      exact ⟨o, hk _ _ ho, hc⟩
    · cases ea
      rw [e] at hQ
      exact call_list_repr_empty ⟨o, hk _ _ ho, hc⟩ (hk _ _ ho) hd (hQ s.heap _ _ fun _ _ z => z)
  | cons x l =>
    refine ⟨⟨_, a :: bs, rd, ReadAtMost.cons rd (n := PyData.depthAll ds) (by omega) m, ?_⟩, fun a' ea => ⟨"list", "list.__repr__", F.slot_list_repr.toG, F.slot_list_str, F.slot_list_format, fun s hk => ?_, fun A E s Q hg hu hk hQ => ?_⟩⟩
    · rw [dp, sh]
      exact ReprK.list ho hc hd hna (by simpa using k.length_eq) fun i y e => k.item i y (by simpa using e)
    · cases ea
      exact ⟨o, hk _ _ ho, hc⟩
    · cases ea
      rw [sh] at hQ
      rw [dp] at hu
      exact call_list_reprK ho hc hd hna (by simpa using k.length_eq) (fun i y e => k.item i y (by simpa using e)) hg (fun b _ => Clear.nil b) hu hk hQ hz2
theorem Rp.tup {a : Addr} {o : Obj} {us : Array Value} {n : Nat} {ds : List D} (ho : h.get? a = some o) (hc : o.cls = .type "tuple") (hd : o.data = .seq us n) (t : RpA P w h us.toList ds) (hz : (PyData.tuple ds).shown.length ≤ sizeLine) : Rp P w h (.ref a) (.tuple ds) := by
  obtain ⟨as, bs, r, m, k⟩ := t.ex
  have sh : (PyData.tuple ds).shown = tupleText (PyData.shownAll ds) := by rw [PyData.shown]
  have hz2 : (tupleText (PyData.shownAll ds)).length ≤ sizeLine := by rw [sh] at hz; exact hz
  have rd : Reads h (.ref a) (.tuple ds) _ := .tuple ho hc hd r
  have dp : (PyData.tuple ds).depth = PyData.depthAll ds + 1 := by rw [PyData.depth]
  have hna : a ∉ bs := not_mem_of_deeper rd (by omega) m
  refine ⟨⟨_, a :: bs, rd, ReadAtMost.cons rd (n := PyData.depthAll ds) (by omega) m, ?_⟩, fun a' ea => ⟨"tuple", "tuple.__repr__", F.slot_tuple_repr, F.slot_tuple_str, F.slot_tuple_format, fun s hk => ?_, fun A E s Q hg hu hk hQ => ?_⟩⟩
  · rw [dp, sh]
    exact ReprK.tuple ho hc hd hna k
  · cases ea
    exact ⟨o, hk _ _ ho, hc⟩
  · cases ea
    rw [sh] at hQ
    rw [dp] at hu
    exact call_tuple_reprK ho hc hd hna k hg (fun b _ => Clear.nil b) hu hk hQ hz2
theorem Rp.dic {a : Addr} {o : Obj} {es : Array DictEntry} {n : Nat} {ks : List (D × D)} (ho : h.get? a = some o) (hc : o.cls = .type "dict") (hd : o.data = .dict es n) (hS : (a == sysModules) = false) (t1 : RpA P w h (es.toList.map (·.key)) (ks.map (·.1))) (t2 : RpA P w h (es.toList.map (·.val)) (ks.map (·.2)))
    (hz : (PyData.dict ks).shown.length ≤ sizeLine) : Rp P w h (.ref a) (.dict ks) := by
  obtain ⟨a1, b1, r1, m1, k1⟩ := t1.ex
  obtain ⟨a2, b2, r2, m2, k2⟩ := t2.ex
  have sh : (PyData.dict ks).shown = dictText (List.zipWith (fun k v : Str => k ++ ": " ++ v) (PyData.shownAll (ks.map (·.1))) (PyData.shownAll (ks.map (·.2)))) := by rw [PyData.shown, PyData.shownKv_eq]
  rw [sh] at hz
  have rd : Reads h (.ref a) (.dict ks) _ := .dict ho hc hd r1 r2
  have dp : (PyData.dict ks).depth = PyData.depthKv ks + 1 := by rw [PyData.depth]
  have l1 := PyData.depthAll_keys_le ks
  have l2 := PyData.depthAll_vals_le ks
  have m : ReadAtMost h (PyData.depthKv ks) (b1 ++ b2) := (m1.mono l1).append (m2.mono l2)
  have hna : a ∉ b1 ++ b2 := not_mem_of_deeper rd (by omega) m
  have k := ReprEntriesK.of_two es.toList _ _ (k1.more_le (fun b hb => List.mem_append_left b2 hb) l1) (k2.more_le (fun b hb => List.mem_append_right b1 hb) l2)
  refine ⟨⟨_, a :: (b1 ++ b2), rd, ReadAtMost.cons rd (n := PyData.depthKv ks) (by omega) m, ?_⟩, fun a' ea => ⟨"dict", "dict.__repr__", F.slot_dict_repr, F.slot_dict_str, F.slot_dict_format, fun s hk => ?_, fun A E s Q hg hu hk hQ => ?_⟩⟩
  · rw [dp, sh]
    exact ReprK.dict ho hc hd hS hna k
  · cases ea
    exact ⟨o, hk _ _ ho, hc⟩
  · cases ea
    rw [sh] at hQ
    rw [dp] at hu
    exact call_dict_reprK ho hc hd hS hna k hg (fun b _ => Clear.nil b) hu hk hQ hz
theorem key_rp {k : Key} {u : Value} (r : (mixKind P w).is k u = true) (hs : (keyD k).showable = true) (hz : (keyD k).shown.length ≤ sizeLine) : Rp P w h u (keyD k) := by
  rcases keyIs_shape r with ⟨i, t, rfl, rfl⟩ | ⟨x, t, rfl, rfl⟩
  · refine Rp.flat (Reads.int i t) (by rw [keyD, PyData.depth]) ?_ (fun _ => nofun)
    rw [keyD, PyData.shown]
    exact ReprIs.int t (by simpa [keyD, PyData.showable] using hs)
  · refine Rp.flat (Reads.str x t) (by rw [keyD, PyData.depth]) ?_ (fun _ => nofun)
    rw [keyD, PyData.shown]
    exact ReprIs.str x t (by rw [keyD, PyData.shown] at hz; exact hz)
end
section
variable {X : Cx} {pins : List (Addr × Obj)} {σ : L2.St} {H : Hp} {s : Shared}
mutual
theorem dr_rp (I : Inv X pins σ H s) : ∀ (d : D) (v : V) (u : Value), d.showable = true → d.shown.length ≤ sizeLine → Dr X.K H v d → RelV v u → Rp X.prog X.w s.heap u d
  | .none, _, _, _, _, h, r => by
    cases h
    cases r
    exact Rp.flat Reads.none (by rw [PyData.depth]) (by rw [PyData.shown]; exact ReprIs.none) (fun _ => nofun)
  | .bool b, _, _, _, _, h, r => by
    cases h
    cases r
    exact Rp.flat (Reads.bool b) (by rw [PyData.depth]) (by rw [PyData.shown]; exact ReprIs.bool b) (fun _ => nofun)
  | .int i, _, _, hs, _, h, r => by
    cases h
    obtain ⟨t, rfl⟩ := r
    exact Rp.flat (Reads.int i t) (by rw [PyData.depth]) (by rw [PyData.shown]; exact ReprIs.int t (by simpa [PyData.showable] using hs)) (fun _ => nofun)
  | .str x, _, _, _, hz, h, r => by
    cases h
    obtain ⟨t, rfl⟩ := r
    exact Rp.flat (Reads.str x t) (by rw [PyData.depth]) (by rw [PyData.shown]; exact ReprIs.str x t (by rw [PyData.shown] at hz; exact hz)) (fun _ => nofun)
  | .list ds, _, _, hs, hz, h, r => by
    cases h with
    | lst hg ha =>
      cases r
      obtain ⟨its, rv, ⟨o, n, ho, hc, _, hd⟩, _⟩ := I.list (SqL.of hg)
      have hz2 : (listText (PyData.shownAll ds)).length ≤ sizeLine := by rw [PyData.shown] at hz; exact hz
      exact Rp.lst ho hc hd (dr_rpA I ds _ its (by simpa [PyData.showable] using hs) (fun t ht => Nat.le_trans (listText_mem_le ht) hz2) ha rv) hz
  | .tuple ds, _, _, hs, hz, h, r => by
    cases h with
    | tup hg ha =>
      cases r
      obtain ⟨its, rv, ⟨o, ho, hc, n, hd⟩, _⟩ := I.tuple hg
      have hz2 : (tupleText (PyData.shownAll ds)).length ≤ sizeLine := by rw [PyData.shown] at hz; exact hz
      exact Rp.tup ho hc hd (by simpa using dr_rpA I ds _ its (by simpa [PyData.showable] using hs) (fun t ht => Nat.le_trans (tupleText_mem_le ht) hz2) ha rv) hz
  | .dict ds, _, _, hs, hz, h, r => by
    cases h with
    | dic hg ha =>
      cases r
      obtain ⟨_, hS, vs, rv, o, es, ep, ho, hx, hd, hk, hp, hn⟩ := I.hok _ _ hg
      have hz2 : (dictText (PyData.shownKv ds)).length ≤ sizeLine := by rw [PyData.shown] at hz; exact hz
      obtain ⟨q1, q2⟩ := dr_rpK I ds _ vs es.toList (by simpa [PyData.showable] using hs) (fun t ht => Nat.le_trans (dictText_mem_le ht) hz2) ha rv hp
      exact Rp.dic ho hx.1 hd hS q1 q2 hz
theorem dr_rpA (I : Inv X pins σ H s) : ∀ (ds : List D) (vs : List V) (us : List Value), PyData.showableAll ds = true → (∀ t ∈ PyData.shownAll ds, t.length ≤ sizeLine) → DrAll X.K H vs ds → Vals vs us → RpA X.prog X.w s.heap us ds
  | [], _, _, _, _, h, r => by
    cases h
    cases r
    exact RpA.nil
  | d :: ds, _, _, hs, hz, h, r => by
    cases h with
    | cons h1 h2 =>
      cases r with
      | cons r1 r2 =>
        rw [PyData.showableAll, Bool.and_eq_true] at hs
        rw [PyData.shownAll] at hz
        exact RpA.cons (dr_rp I d _ _ hs.1 (hz _ List.mem_cons_self) h1 r1) (dr_rpA I ds _ _ hs.2 (fun t ht => hz t (List.mem_cons_of_mem _ ht)) h2 r2)
theorem dr_rpK (I : Inv X pins σ H s) : ∀ (ds : List (D × D)) (kvs : List (Key × V)) (vs : List (Key × Value)) (es : List DictEntry), PyData.showableKv ds = true → (∀ t ∈ PyData.shownKv ds, t.length ≤ sizeLine) → DrKv X.K H kvs ds → KV kvs vs → Pairs (mixKind X.prog X.w) es vs →
    RpA X.prog X.w s.heap (es.map (·.key)) (ds.map (·.1)) ∧ RpA X.prog X.w s.heap (es.map (·.val)) (ds.map (·.2))
  | [], _, _, _, _, _, h, r, p => by
    cases h
    cases r
    cases p
    exact ⟨RpA.nil, RpA.nil⟩
  | (k, d) :: ds, _, _, _, hs, hz, h, r, p => by
    cases h with
    | cons h1 h2 =>
      cases r with
      | cons r1 r2 =>
        cases p with
        | cons p1 p2 p3 =>
          rw [PyData.showableKv, Bool.and_eq_true, Bool.and_eq_true] at hs
          rw [PyData.shownKv] at hz
          have z1 := hz _ List.mem_cons_self
          rw [strLen_append, strLen_append] at z1
          obtain ⟨q1, q2⟩ := dr_rpK I ds _ _ _ hs.2 (fun t ht => hz t (List.mem_cons_of_mem _ ht)) h2 r2 p3
          exact ⟨RpA.cons (key_rp (by have e1 := r1.1; dsimp only at e1; rw [e1]; exact p1) hs.1.1 (by omega)) q1, RpA.cons (dr_rp I d _ _ hs.1.2 (by omega) h1 (by dsimp only; rw [p2]; exact r1.2)) q2⟩
end
end
/-- repr of any data -/
def dReprX : List D → (D → Prop) → Prop
  | [x], P => x.showable = true ∧ x.depth ≤ 60 ∧ x.shown.length ≤ sizeLine ∧ P (.str x.shown)
  | _, _ => False
section
variable {X : Cx}
theorem cd_reprX (hg : X.A.guards = some []) (hu : X.A.units + 64 < cLine) : CallR X (.builtin "repr") (rDC X.K dReprX) := by
  intro pins s σ H xs us Q I r h
  obtain ⟨G, ds, P, sG, da, hf, q⟩ := h
  unfold dReprX at hf
  split at hf
  · obtain ⟨v, rfl, d⟩ := all1 da
    obtain ⟨h1, h3, h4, hP⟩ := hf
    have d2 := dp_same sG d
    have q' := q _ _ G H hP (Grow.refl sG) (.str _)
    have go : ∀ a, v = .ref a → wpAny (model X.prog X.w) X.A (call (.builtin "repr") us) (EP X pins σ Q) X.xe s := fun a ev => by
      subst ev
      obtain ⟨u, rfl, r1⟩ := vals1 r
      have rp := dr_rp I _ _ _ h1 h4 d2 r1
      cases r1
      obtain ⟨T, i, S⟩ := rp.top _ rfl
      refine call_repr_slot (by omega) (S.typeIs s fun _ _ e => e) S.slotRepr (S.call X.A.in1 X.xe s _ hg ?_ (fun _ _ e => e) fun h' t tk hk => ⟨_, _, rfl, .str _, H, I.kept hk, ⟨_, rfl⟩, q'⟩)
      show X.A.units + 1 + _ < cLine
      omega
    cases d with
    | int i =>
      obtain ⟨u, rfl, t, rfl⟩ := vals1 r
      exact PySem.P.repr_of_int (by simpa [PyData.showable] using h1) ⟨.str _, H, I.tok _, ⟨_, rfl⟩, q'⟩
    | str z =>
      obtain ⟨u, rfl, t, rfl⟩ := vals1 r
      exact PySem.P.repr_of_str ⟨.str _, H, I.tok _, ⟨_, rfl⟩, q'⟩ h4
    | bl b =>
      obtain ⟨u, rfl, r1⟩ := vals1 r
      cases r1
      exact PySem.P.repr_of_bool ⟨.str _, H, I.tok _, ⟨_, rfl⟩, q'⟩
    | non =>
      obtain ⟨u, rfl, r1⟩ := vals1 r
      cases r1
      exact PySem.P.repr_of_none ⟨.str _, H, I.tok _, ⟨_, rfl⟩, q'⟩
    | lst a b => exact go _ rfl
    | tup a b => exact go _ rfl
    | dic a b => exact go _ rfl
  · exact hf.elim
end
end DL
namespace DL
open PySem PySem.Spec PyProof.Rows L2
/-! ### a tuple of anything == () -/
def cEq0 : D → D → (Bool → Prop) → Prop
  | .tuple xs, .tuple [], P => P xs.isEmpty
  | _, _, _ => False
section
variable {X : Cx}
theorem tup_at {pins : List (Addr × Obj)} {σ : L2.St} {H : Hp} {s : Shared} {a : Addr} {us : List V} (I : L2.Inv X pins σ H s) (h : SqT X.K H a us) : ∃ its : Array Value, s.heap.IsTuple a its ∧ its.size = us.length := by
  obtain ⟨its, r, t, _⟩ := I.tuple h
  exact ⟨its.toArray, t, by rw [List.size_toArray]; exact r.length.symm⟩
theorem od_eq0 (hu : X.A.units + 64 < cLine) : OpR X (compareOp .Eq) (rDC2 X.K cEq0) := by
  intro pins s σ H x y v u Q I rx ry h
  obtain ⟨G, dx, dy, P, sG, d1, d2, hf, q⟩ := h
  unfold cEq0 at hf
  split at hf
  · obtain ⟨a, us, rfl, h1, h2⟩ := dp_tup d1
    obtain ⟨b, ws, rfl, h3, h4⟩ := dp_tup d2
    cases h4
    cases rx
    cases ry
    have e := all_empty h2
    obtain ⟨its, l1, z1⟩ := tup_at I (same_sqT sG h1)
    obtain ⟨it2, l2, z2⟩ := tup_at I (same_sqT sG h3)
    have e2 : it2.size = 0 := z2
    have key := SeqAt.RcAt.tuples (A := X.A) (e := fun _ => true) l1 l2 (by omega) (fun j h h3 => absurd h3 (by omega))
    have em : ((List.range (min its.size it2.size)).all (fun _ => true) && its.size == it2.size) = us.isEmpty := by
      rw [e2, z1, Nat.min_zero]
      cases us <;> rfl
    rw [em] at key
    exact key _ _ _ _ ⟨.bl _, H, I, rfl, q _ (by rw [e]; exact hf)⟩
  · exact hf.elim
/-! ### {k: x}, k a number -/
def mDict1 (i : Int) (m : ME) : ME := fun env P => m env fun x e1 => P (.dict [(.int i, x)]) e1
theorem ge_disp1 {pos : Pos} {i : Int} {ek ev : Expr} {n : Nat} {m : ME} (h : PPs X pos [some ek] [ev] [(tC (.int i), tD X.K n m)]) : GE X (.Dict [some ek] [ev] pos) n (mDict1 i m) := pe_imp (pe_disp h rfl rfl (by simp) (by simp)) fun σ H Q h => by
  obtain ⟨W, B, G0, H0, G, env, P, R, hm, q⟩ := h
  intro p hp
  obtain ⟨R1, f1, f2, f3, f4⟩ := R.fresh (o := .dK []) hp
  have R2 := R1.guard upd_same f1 f4
  have g0 : G0 p = none := R.g0.free f1
  refine ⟨W, B, _, _, G, env, _, R2, hm, fun x e1 v G1 H1 p1 s1 R3 d1 => ?_⟩
  obtain ⟨R4, hp4, gp4, ho4⟩ := R3.unguard f3 g0 f2
  refine ⟨hp4, [(Sum.inl i, v)], rfl, by simp, ?_⟩
  have em : mergeK [] [((Sum.inl i : Key), v)] = [(Sum.inl i, v)] := merge_new _ [] (by simp)
  rw [em]
  have sg : Same G1 (upd G1 p (.dK [(Sum.inl i, v)])) := same_upd gp4
  exact q _ e1 _ _ _ p1 (s1.trans sg) (R4.pubO gp4 f2 f3 ho4) (.dic upd_same (drkv_same sg (.cons d1 .nil)))
end
end DL
namespace DL
open PySem PySem.Spec PyProof.Rows L2
/-! ### zip of three things of any sort -/
abbrev Tr3 (h : Heap) (T : Addr) (a b c : Value) : Prop := h.get? T = some { cls := .type "tuple", data := .seq #[a, b, c] }
structure Ap3 (z TI TO i1 i2 i3 : Addr) (ls : List Addr) : Prop where
  d : (TI ≠ z ∧ TO ≠ z ∧ i1 ≠ z ∧ i2 ≠ z ∧ i3 ≠ z) ∧ (TI ≠ TO ∧ TO ≠ i1 ∧ TO ≠ i2 ∧ TO ≠ i3) ∧ i1 ≠ i2 ∧ i1 ≠ i3 ∧ i2 ≠ i3
  l : ∀ c ∈ ls, c ≠ z ∧ c ≠ TO ∧ c ≠ i1 ∧ c ≠ i2 ∧ c ≠ i3
section
variable {prog : Program} {w : World} {A : Around} {E : Value → Shared → Prop} {s : Shared} {z TI TO i1 i2 i3 : Addr} {ls1 ls2 ls3 : List Addr} {n1 n2 n3 : Nat} {Y1 Y2 Y3 : Nat → Value → Prop} {C1 C2 C3 : Heap → Prop} {S1 S2 S3 : Nat → Heap → Prop}
theorem upd_tr {T : Addr} {a b c x : Value} {k : Nat} {Q : Unit → Shared → Prop} (hT : Tr3 s.heap T a b c)
    (q : ∀ h', h'.get? T = some { cls := .type "tuple", data := .seq ((#[a, b, c] : Array Value).setIfInBounds k x) } → Heap.SameBut T s.heap h' → Q () { s with heap := h' }) : wpAny (model prog w) A (updateSeq T (·.setIfInBounds k x)) Q E s := by
  refine wpAny_updateSeq hT rfl (q _ ?_ (Heap.SameBut.update ..))
  rw [Heap.get?_update_self _ hT rfl]
  simp [Obj.mapSeq]
theorem z3_next {k : Nat} {a b c : Value} {Q : Value → Shared → Prop} (W1 : Wlk i1 ls1 n1 Y1 C1 S1) (W2 : Wlk i2 ls2 n2 Y2 C2 S2) (W3 : Wlk i3 ls3 n3 Y3 C3 S3) (D : Ap3 z TI TO i1 i2 i3 (ls1 ++ (ls2 ++ ls3))) (hz : IsZip s.heap z TI TO .none) (hTI : Tr3 s.heap TI (.ref i1) (.ref i2) (.ref i3)) (hTO : Tr3 s.heap TO a b c)
    (m1 : S1 k s.heap) (m2 : S2 k s.heap) (m3 : S3 k s.heap) (c1 : C1 s.heap) (c2 : C2 s.heap) (c3 : C3 s.heap) (l1 : k < n1) (l2 : k < n2) (l3 : k < n3)
    (hQ : ∀ x y v h' tk, Y1 k x → Y2 k y → Y3 k v → IsZip h' z TI TO (rawInt s.heap.objs.size) → Tr3 h' TO x y v → S1 (k + 1) h' → S2 (k + 1) h' → S3 (k + 1) h' → Tr3 h' s.heap.objs.size x y v →
      (∀ c o, c ≠ z → c ≠ TO → c ≠ i1 → c ≠ i2 → c ≠ i3 → s.heap.get? c = some o → h'.get? c = some o) → Q (.ref s.heap.objs.size) { s with heap := h', toks := tk }) :
    wpAny (model prog w) A (Builtin.«zip.__next__» ⟨[.ref z], []⟩) (fun fin s' => ∃ v, fin = .done (.ret v) ∧ Q v s') E s := by
  obtain ⟨⟨d1, d2, d3, d4, d5⟩, ⟨d6, d7, d8, d9⟩, d10, d11, d12⟩ := D.d
  have dl1 := fun c hc => D.l c (List.mem_append_left _ hc)
  have dl2 := fun c hc => D.l c (List.mem_append_right _ (List.mem_append_left _ hc))
  have dl3 := fun c hc => D.l c (List.mem_append_right _ (List.mem_append_right _ hc))
  show wpAny _ _ (field (.ref z) 2 >>= _) _ _ _
  refine wpAny_bind (wpAny_field hz rfl (x := .bool false) rfl ?_)
  show wpAny _ _ (field (.ref z) 3 >>= _) _ _ _
  refine wpAny_bind (wpAny_field hz rfl (x := .ref TI) rfl (wpAny_bind (wpAny_seqItems hTI rfl ?_)))
  show wpAny _ _ (Builtin.SmallTypes.ownedTupleIsFree (.ref z) >>= _) _ _ _
  refine wpAny_bind ?_
  unfold Builtin.SmallTypes.ownedTupleIsFree
  refine wpAny_bind (wpAny_field hz rfl (x := .none) rfl (wpAny_pure ?_))
  simp only [if_true]
  refine wpAny_bind (wpAny_rule (wpAny_bind (wpAny_field hz rfl (x := .ref TO) rfl ?_)))
  refine wpAny_bind (wpAny_setField_rec hz (by simp) fun ha za sa => ?_)
  have za : IsZip ha z TI TO .ellipsis := za
  refine wpAny_bind ?_
  simp only [List.zipIdx_cons, List.zipIdx_nil, List.forIn_cons, List.forIn_nil]
  refine wpAny_bind (wpAny_bind (wpAny_onRaise ?_))
  show wpAny _ _ (Builtin.SmallTypes.nextOf (.ref i1) >>= _) _ _ _
  refine wpAny_bind (W1.item (s := { s with heap := ha }) (W1.keep m1 fun o q => sa.extBut _ _ d3 q) (W1.keepC c1 fun c hc o q => sa.extBut _ _ (dl1 c hc).1 q) l1 fun x hb tb yx nb sb => wpAny_pure ?_)
  have sb : Heap.SameBut i1 ha hb := sb
  have ob : Tr3 hb TO a b c := sb.extBut _ _ d7 (sa.extBut _ _ d2 hTO)
  refine wpAny_bind (wpAny_seqItems ob rfl (wpAny_bind (upd_tr ob fun hc oc sc => ?_)))
  have oc : Tr3 hc TO x b c := oc
  have kc : ∀ c o, c ≠ z → c ≠ TO → c ≠ i1 → s.heap.get? c = some o → hc.get? c = some o := fun c o q1 q2 q3 q => sc.extBut _ _ q2 (sb.extBut _ _ q3 (sa.extBut _ _ q1 q))
  refine wpAny_bind (wpAny_letGo (wpAny_pure ?_))
  refine wpAny_bind (wpAny_bind (wpAny_onRaise ?_))
  show wpAny _ _ (Builtin.SmallTypes.nextOf (.ref i2) >>= _) _ _ _
  refine wpAny_bind (W2.item (s := { s with heap := hc, toks := tb }) (W2.keep m2 fun o q => kc _ _ d4 d8.symm d10.symm q) (W2.keepC c2 fun c hcm o q => kc _ _ (dl2 c hcm).1 (dl2 c hcm).2.1 (dl2 c hcm).2.2.1 q) l2 fun y hd td yy nd sd => wpAny_pure ?_)
  have sd : Heap.SameBut i2 hc hd := sd
  have od : Tr3 hd TO x b c := sd.extBut _ _ d8 oc
  refine wpAny_bind (wpAny_seqItems od rfl (wpAny_bind (upd_tr od fun he oe se => ?_)))
  have oe : Tr3 he TO x y c := oe
  have ke : ∀ c o, c ≠ z → c ≠ TO → c ≠ i1 → c ≠ i2 → s.heap.get? c = some o → he.get? c = some o := fun c o q1 q2 q3 q4 q => se.extBut _ _ q2 (sd.extBut _ _ q4 (kc c o q1 q2 q3 q))
  refine wpAny_bind (wpAny_letGo (wpAny_pure ?_))
  refine wpAny_bind (wpAny_bind (wpAny_onRaise ?_))
  show wpAny _ _ (Builtin.SmallTypes.nextOf (.ref i3) >>= _) _ _ _
  refine wpAny_bind (W3.item (s := { s with heap := he, toks := td }) (W3.keep m3 fun o q => ke _ _ d5 d9.symm d11.symm d12.symm q) (W3.keepC c3 fun c hcm o q => ke _ _ (dl3 c hcm).1 (dl3 c hcm).2.1 (dl3 c hcm).2.2.1 (dl3 c hcm).2.2.2.1 q) l3 fun v hf tf yv nf sf => wpAny_pure ?_)
  have sf : Heap.SameBut i3 he hf := sf
  have of3 : Tr3 hf TO x y c := sf.extBut _ _ d9 oe
  refine wpAny_bind (wpAny_seqItems of3 rfl (wpAny_bind (upd_tr of3 fun hg og sg => ?_)))
  have og : Tr3 hg TO x y v := og
  have kg : ∀ c o, c ≠ z → c ≠ TO → c ≠ i1 → c ≠ i2 → c ≠ i3 → s.heap.get? c = some o → hg.get? c = some o := fun c o q1 q2 q3 q4 q5 q => sg.extBut _ _ q2 (sf.extBut _ _ q5 (ke c o q1 q2 q3 q4 q))
  refine wpAny_bind (wpAny_letGo (wpAny_pure (wpAny_pure ?_)))
  refine wpAny_bind (wpAny_seqItems og rfl (wpAny_bind (wpAny_newTuple ?_)))
  have sz : hg.objs.size = s.heap.objs.size := by rw [sg.1, sf.1, se.1, sd.1, sc.1, sb.1, sa.1]
  have ze : IsZip hg z TI TO .ellipsis := sg.extBut _ _ d2.symm (sf.extBut _ _ d5.symm (se.extBut _ _ d2.symm (sd.extBut _ _ d4.symm (sc.extBut _ _ d2.symm (sb.extBut _ _ d3.symm za)))))
  have zl : z < hg.objs.size := Heap.lt_size ze
  show wpAny _ _ (Builtin.SmallTypes.ownedTupleHandOut (.ref z) (.ref hg.objs.size) >>= _) _ _ _
  refine wpAny_bind ?_
  unfold Builtin.SmallTypes.ownedTupleHandOut
  have zf : IsZip (hg.push { cls := .type "tuple", data := .seq #[x, y, v] }) z TI TO .ellipsis := Heap.get?_push_of_some _ ze
  refine wpAny_bind (wpAny_setField_rec zf (by simp) fun hi zg si => ?_)
  have zg : IsZip hi z TI TO (rawInt hg.objs.size) := zg
  refine wpAny_setField_rec zg (by simp) fun hh zh sh => ?_
  have zh : IsZip hh z TI TO (rawInt hg.objs.size) := zh
  have up : ∀ c o, c ≠ z → hg.get? c = some o → hh.get? c = some o := fun c o c1 q => sh.extBut _ _ c1 (si.extBut _ _ c1 (Heap.get?_push_of_some _ q))
  have pr : Tr3 hh hg.objs.size x y v := sh.extBut _ _ (Nat.ne_of_gt zl) (si.extBut _ _ (Nat.ne_of_gt zl) (Heap.get?_push_size _ rfl))
  rw [sz] at zh pr
  refine wpAny_pure ⟨_, rfl, ?_⟩
  show Q (.ref hg.objs.size) _
  rw [sz]
  exact hQ x y v hh tf yx yy yv zh (up _ _ d2 og) (W1.keep nb fun o q => up _ _ d3 (sg.extBut _ _ d7.symm (sf.extBut _ _ d11 (se.extBut _ _ d7.symm (sd.extBut _ _ d10 (sc.extBut _ _ d7.symm q)))))) (W2.keep nd fun o q => up _ _ d4 (sg.extBut _ _ d8.symm (sf.extBut _ _ d12 (se.extBut _ _ d8.symm q)))) (W3.keep nf fun o q => up _ _ d5 (sg.extBut _ _ d9.symm q)) pr fun c o c1 c2 c3 c4 c5 q => up c o c1 (kg c o c1 c2 c3 c4 c5 q)
theorem z3_end {k : Nat} {a b c : Value} {Q : Fin → Shared → Prop} (ok : A.handled = none) (W1 : Wlk i1 ls1 n1 Y1 C1 S1) (W2 : Wlk i2 ls2 n2 Y2 C2 S2) (W3 : Wlk i3 ls3 n3 Y3 C3 S3) (D : Ap3 z TI TO i1 i2 i3 (ls1 ++ (ls2 ++ ls3))) (hz : IsZip s.heap z TI TO .none) (hTI : Tr3 s.heap TI (.ref i1) (.ref i2) (.ref i3)) (hTO : Tr3 s.heap TO a b c)
    (m1 : S1 k s.heap) (m2 : S2 k s.heap) (m3 : S3 k s.heap) (c1 : C1 s.heap) (c2 : C2 s.heap) (c3 : C3 s.heap) (hend : n1 ≤ k ∨ n2 ≤ k ∨ n3 ≤ k)
    (hE : ∀ h' e tk, (∀ c o, c ≠ z → c ≠ TO → c ≠ i1 → c ≠ i2 → c ≠ i3 → s.heap.get? c = some o → h'.get? c = some o) → (∃ o, h'.get? e = some o ∧ o.cls = .type "StopIteration") → E (.ref e) { s with heap := h', toks := tk }) :
    wpAny (model prog w) A (Builtin.«zip.__next__» ⟨[.ref z], []⟩) Q E s := by
  obtain ⟨⟨d1, d2, d3, d4, d5⟩, ⟨d6, d7, d8, d9⟩, d10, d11, d12⟩ := D.d
  have dl1 := fun c hc => D.l c (List.mem_append_left _ hc)
  have dl2 := fun c hc => D.l c (List.mem_append_right _ (List.mem_append_left _ hc))
  have dl3 := fun c hc => D.l c (List.mem_append_right _ (List.mem_append_right _ hc))
  show wpAny _ _ (field (.ref z) 2 >>= _) _ _ _
  refine wpAny_bind (wpAny_field hz rfl (x := .bool false) rfl ?_)
  show wpAny _ _ (field (.ref z) 3 >>= _) _ _ _
  refine wpAny_bind (wpAny_field hz rfl (x := .ref TI) rfl (wpAny_bind (wpAny_seqItems hTI rfl ?_)))
  show wpAny _ _ (Builtin.SmallTypes.ownedTupleIsFree (.ref z) >>= _) _ _ _
  refine wpAny_bind ?_
  unfold Builtin.SmallTypes.ownedTupleIsFree
  refine wpAny_bind (wpAny_field hz rfl (x := .none) rfl (wpAny_pure ?_))
  simp only [if_true]
  refine wpAny_bind (wpAny_rule (wpAny_bind (wpAny_field hz rfl (x := .ref TO) rfl ?_)))
  refine wpAny_bind (wpAny_setField_rec hz (by simp) fun ha za sa => ?_)
  have za : IsZip ha z TI TO .ellipsis := za
  refine wpAny_bind ?_
  simp only [List.zipIdx_cons, List.zipIdx_nil, List.forIn_cons, List.forIn_nil]
  refine wpAny_bind (wpAny_bind (wpAny_onRaise ?_))
  show wpAny _ _ (Builtin.SmallTypes.nextOf (.ref i1) >>= _) _ _ _
  have M1 : S1 k ha := W1.keep m1 fun o q => sa.extBut _ _ d3 q
  have K1 : C1 ha := W1.keepC c1 fun c hc o q => sa.extBut _ _ (dl1 c hc).1 q
  by_cases l1 : n1 ≤ k
  · refine wpAny_bind (W1.done (s := { s with heap := ha }) ok M1 K1 l1 fun hb e eb st => ?_)
    obtain ⟨oe, hoe, hce⟩ := st
    have zb : IsZip hb z TI TO .ellipsis := eb _ _ d3.symm za
    have ez : e ≠ z := fun q => by
      subst q
      rw [zb] at hoe
      cases hoe
      simp at hce
    exact wpAny_setField_rec zb (by simp) fun hc _ sc => hE hc e s.toks (fun c o q1 _ q3 _ _ x => sc.extBut _ _ q1 (eb _ _ q3 (sa.extBut _ _ q1 x))) ⟨oe, sc.extBut _ _ ez hoe, hce⟩
  · refine wpAny_bind (W1.item (s := { s with heap := ha }) M1 K1 (by omega) fun x hb tb yx nb sb => wpAny_pure ?_)
    have sb : Heap.SameBut i1 ha hb := sb
    have ob : Tr3 hb TO a b c := sb.extBut _ _ d7 (sa.extBut _ _ d2 hTO)
    refine wpAny_bind (wpAny_seqItems ob rfl (wpAny_bind (upd_tr ob fun hc oc sc => ?_)))
    have oc : Tr3 hc TO x b c := oc
    have kc : ∀ c o, c ≠ z → c ≠ TO → c ≠ i1 → s.heap.get? c = some o → hc.get? c = some o := fun c o q1 q2 q3 q => sc.extBut _ _ q2 (sb.extBut _ _ q3 (sa.extBut _ _ q1 q))
    have zc : IsZip hc z TI TO .ellipsis := sc.extBut _ _ d2.symm (sb.extBut _ _ d3.symm za)
    refine wpAny_bind (wpAny_letGo (wpAny_pure ?_))
    refine wpAny_bind (wpAny_bind (wpAny_onRaise ?_))
    show wpAny _ _ (Builtin.SmallTypes.nextOf (.ref i2) >>= _) _ _ _
    have M2 : S2 k hc := W2.keep m2 fun o q => kc _ _ d4 d8.symm d10.symm q
    have K2 : C2 hc := W2.keepC c2 fun c hcm o q => kc _ _ (dl2 c hcm).1 (dl2 c hcm).2.1 (dl2 c hcm).2.2.1 q
    by_cases l2 : n2 ≤ k
    · refine wpAny_bind (W2.done (s := { s with heap := hc, toks := tb }) ok M2 K2 l2 fun hd e ed st => ?_)
      obtain ⟨oe, hoe, hce⟩ := st
      have zd : IsZip hd z TI TO .ellipsis := ed _ _ d4.symm zc
      have ez : e ≠ z := fun q => by
        subst q
        rw [zd] at hoe
        cases hoe
        simp at hce
      exact wpAny_setField_rec zd (by simp) fun he _ se => hE he e tb (fun c o q1 q2 q3 q4 _ x => se.extBut _ _ q1 (ed _ _ q4 (kc c o q1 q2 q3 x))) ⟨oe, se.extBut _ _ ez hoe, hce⟩
    · have l3 : n3 ≤ k := by omega
      refine wpAny_bind (W2.item (s := { s with heap := hc, toks := tb }) M2 K2 (by omega) fun y hd td yy nd sd => wpAny_pure ?_)
      have sd : Heap.SameBut i2 hc hd := sd
      have od : Tr3 hd TO x b c := sd.extBut _ _ d8 oc
      refine wpAny_bind (wpAny_seqItems od rfl (wpAny_bind (upd_tr od fun he oe se => ?_)))
      have ke : ∀ c o, c ≠ z → c ≠ TO → c ≠ i1 → c ≠ i2 → s.heap.get? c = some o → he.get? c = some o := fun c o q1 q2 q3 q4 q => se.extBut _ _ q2 (sd.extBut _ _ q4 (kc c o q1 q2 q3 q))
      have ze : IsZip he z TI TO .ellipsis := se.extBut _ _ d2.symm (sd.extBut _ _ d4.symm zc)
      refine wpAny_bind (wpAny_letGo (wpAny_pure ?_))
      refine wpAny_bind (wpAny_bind (wpAny_onRaise ?_))
      show wpAny _ _ (Builtin.SmallTypes.nextOf (.ref i3) >>= _) _ _ _
      refine wpAny_bind (W3.done (s := { s with heap := he, toks := td }) ok (W3.keep m3 fun o q => ke _ _ d5 d9.symm d11.symm d12.symm q) (W3.keepC c3 fun c hcm o q => ke _ _ (dl3 c hcm).1 (dl3 c hcm).2.1 (dl3 c hcm).2.2.1 (dl3 c hcm).2.2.2.1 q) l3 fun hf e ef st => ?_)
      obtain ⟨of3, hof, hcf⟩ := st
      have zf : IsZip hf z TI TO .ellipsis := ef _ _ d5.symm ze
      have ez : e ≠ z := fun q => by
        subst q
        rw [zf] at hof
        cases hof
        simp at hcf
      exact wpAny_setField_rec zf (by simp) fun hg _ sg => hE hg e td (fun c o q1 q2 q3 q4 q5 x => sg.extBut _ _ q1 (ef _ _ q5 (ke c o q1 q2 q3 q4 x))) ⟨of3, sg.extBut _ _ ez hof, hcf⟩
end
end DL
namespace DL
open PySem PySem.Spec PyProof.Rows L2
section
variable {prog : Program} {w : World} {A : Around} {E : Value → Shared → Prop} {s : Shared} {z TI TO i1 i2 i3 : Addr} {ls1 ls2 ls3 : List Addr} {n1 n2 n3 : Nat} {Y1 Y2 Y3 : Nat → Value → Prop} {D1 D2 D3 : Heap → Prop} {S1 S2 S3 : Nat → Heap → Prop}
theorem z3_pyNext {k : Nat} {a b c : Value} {Q : Option Value → Shared → Prop} (W1 : Wlk i1 ls1 n1 Y1 D1 S1) (W2 : Wlk i2 ls2 n2 Y2 D2 S2) (W3 : Wlk i3 ls3 n3 Y3 D3 S3) (D : Ap3 z TI TO i1 i2 i3 (ls1 ++ (ls2 ++ ls3))) (hz : IsZip s.heap z TI TO .none) (hTI : Tr3 s.heap TI (.ref i1) (.ref i2) (.ref i3)) (hTO : Tr3 s.heap TO a b c)
    (m1 : S1 k s.heap) (m2 : S2 k s.heap) (m3 : S3 k s.heap) (c1 : D1 s.heap) (c2 : D2 s.heap) (c3 : D3 s.heap) (l1 : k < n1) (l2 : k < n2) (l3 : k < n3)
    (hQ : ∀ x y v h' tk, Y1 k x → Y2 k y → Y3 k v → IsZip h' z TI TO (rawInt s.heap.objs.size) → Tr3 h' TO x y v → S1 (k + 1) h' → S2 (k + 1) h' → S3 (k + 1) h' → Tr3 h' s.heap.objs.size x y v →
      (∀ c o, c ≠ z → c ≠ TO → c ≠ i1 → c ≠ i2 → c ≠ i3 → s.heap.get? c = some o → h'.get? c = some o) → Q (some (.ref s.heap.objs.size)) { s with heap := h', toks := tk }) : wpAny (model prog w) A (pyNext (.ref z)) Q E s := by
  have hT : s.TypeIs (.ref z) "zip" := ⟨_, hz, rfl⟩
  unfold pyNext
  exact wpAny_bind (wpAny_attempt (wpAny_callSpecial?_slot (name := Str.ofString "__next__") hT F.slot_zip_next (wpAny_call_entry F.slot_zip_next hT F.entry_zip_next (z3_next W1 W2 W3 D hz hTI hTO m1 m2 m3 c1 c2 c3 l1 l2 l3 fun x y v h2 tk a1 a2 a3 a4 a5 a6 a7 a8 a9 b1 => wpAny_pure (hQ x y v h2 tk a1 a2 a3 a4 a5 a6 a7 a8 a9 b1)) (F.args_zip_next_1 _))))
theorem z3_pyEnd {k : Nat} {a b c : Value} {Q : Option Value → Shared → Prop} (ok : A.handled = none) (W1 : Wlk i1 ls1 n1 Y1 D1 S1) (W2 : Wlk i2 ls2 n2 Y2 D2 S2) (W3 : Wlk i3 ls3 n3 Y3 D3 S3) (D : Ap3 z TI TO i1 i2 i3 (ls1 ++ (ls2 ++ ls3))) (hz : IsZip s.heap z TI TO .none) (hTI : Tr3 s.heap TI (.ref i1) (.ref i2) (.ref i3)) (hTO : Tr3 s.heap TO a b c)
    (m1 : S1 k s.heap) (m2 : S2 k s.heap) (m3 : S3 k s.heap) (c1 : D1 s.heap) (c2 : D2 s.heap) (c3 : D3 s.heap) (hend : n1 ≤ k ∨ n2 ≤ k ∨ n3 ≤ k)
    (hQ : ∀ h' tk, (∀ c o, c ≠ z → c ≠ TO → c ≠ i1 → c ≠ i2 → c ≠ i3 → s.heap.get? c = some o → h'.get? c = some o) → Q none { s with heap := h', toks := tk }) : wpAny (model prog w) A (pyNext (.ref z)) Q E s := by
  have hT : s.TypeIs (.ref z) "zip" := ⟨_, hz, rfl⟩
  unfold pyNext
  refine wpAny_bind (wpAny_attempt (wpAny_callSpecial?_slot (name := Str.ofString "__next__") hT F.slot_zip_next (wpAny_call_entry F.slot_zip_next hT F.entry_zip_next (z3_end ok W1 W2 W3 D hz hTI hTO m1 m2 m3 c1 c2 c3 hend fun h2 e tk k q => ?_) (F.args_zip_next_1 _))))
  obtain ⟨o, ho, hc⟩ := q
  exact wpAny_bind (wpAny_isInstance (T := "StopIteration") (b := true) ⟨o, ho, hc⟩ isSubtype_stop (wpAny_pure (hQ _ _ k)))
end
def Itz3 (K : PySem.W.Frag) (c d e : Cp) : It :=
  ⟨fun i H => ∃ (xs ys zs : List V) (x y z : V), (CpIt K H c xs ∧ CpIt K H d ys ∧ CpIt K H e zs) ∧ xs[i]? = some x ∧ ys[i]? = some y ∧ zs[i]? = some z,
    fun i H v H' => ∃ T x y z, v = .ref T ∧ H T = none ∧ H' = upd H T (.tup [x, y, z]) ∧ (∀ xs, CpIt K H c xs → xs[i]? = some x) ∧ (∀ ys, CpIt K H d ys → ys[i]? = some y) ∧ ∀ zs, CpIt K H e zs → zs[i]? = some z,
    fun i H => ∃ xs ys zs : List V, (CpIt K H c xs ∧ CpIt K H d ys ∧ CpIt K H e zs) ∧ (xs.length ≤ i ∨ ys.length ≤ i ∨ zs.length ≤ i)⟩
theorem ap3_lt (I c : Nat) (h : c < I) : c ≠ I + 5 ∧ c ≠ I + 4 ∧ c ≠ I ∧ c ≠ I + 1 ∧ c ≠ I + 2 := by omega
theorem ap3_5 (I j : Nat) (h : j < 5) : I + j ≠ I + 5 := by omega
theorem ap3_6 (I c n : Nat) (h : c = I + 5 ∨ c = I + 3 ∨ c = I + 4 ∨ c = I ∨ c = I + 1 ∨ c = I + 2) (h2 : I + 5 < n) : c < n := by omega
theorem turn_zip3 {P : Program} {w : World} {K : PySem.W.Frag} {elts : List Expr} {kk : Nat} {tpos : Pos} {I0 : Addr} {c d e : Cp} {S1 S2 S3 : Nat → Heap → Prop} (p1 : Prt P w K c I0 I0 S1) (p2 : Prt P w K d (I0 + 1) I0 S2) (p3 : Prt P w K e (I0 + 2) I0 S3) :
    Turn P w K (.Tuple elts kk tpos) (Itz3 K c d e) [I0 + 5, I0 + 3, I0 + 4, I0, I0 + 1, I0 + 2] (I0 + 5) (fun i h => IsZip h (I0 + 5) (I0 + 3) (I0 + 4) .none ∧ Tr3 h (I0 + 3) (.ref I0) (.ref (I0 + 1)) (.ref (I0 + 2)) ∧ (∃ x y z, Tr3 h (I0 + 4) x y z) ∧ S1 i h ∧ S2 i h ∧ S3 i h) where
  mem := by simp
  obj := fun i h st b hb => by
    obtain ⟨hz, hTI, ⟨x, y, z, hTO⟩, m1, m2, m3⟩ := st
    obtain ⟨o1, f1, e1, q1⟩ := p1.obj m1
    obtain ⟨o2, f2, e2, q2⟩ := p2.obj m2
    obtain ⟨o3, f3, e3, q3⟩ := p3.obj m3
    simp only [List.mem_cons, List.not_mem_nil, or_false] at hb
    rcases hb with rfl | rfl | rfl | rfl | rfl | rfl
    · exact ⟨_, hz, fun v q => nomatch q⟩
    · exact ⟨_, hTI, fun v q => nomatch q⟩
    · exact ⟨_, hTO, fun v q => nomatch q⟩
    · exact ⟨o1, e1, fun v q => by rw [q1] at q; cases q⟩
    · exact ⟨o2, e2, fun v q => by rw [q2] at q; cases q⟩
    · exact ⟨o3, e3, fun v q => by rw [q3] at q; cases q⟩
  keep := fun i h h' st k => by
    obtain ⟨hz, hTI, ⟨x, y, z, hTO⟩, m1, m2, m3⟩ := st
    exact ⟨k (I0 + 5) (by simp) _ hz, k (I0 + 3) (by simp) _ hTI, ⟨x, y, z, k (I0 + 4) (by simp) _ hTO⟩, p1.keep m1 fun o q => k I0 (by simp) o q, p2.keep m2 fun o q => k (I0 + 1) (by simp) o q, p3.keep m3 fun o q => k (I0 + 2) (by simp) o q⟩
  item := by
    intro X hP hw hK hc i pins s σ H E I hf st hg
    obtain ⟨hz, hTI, ⟨x0, y0, z0, hTO⟩, m1, m2, m3⟩ := st
    obtain ⟨xs, ys, zs, x, y, z, ⟨hqx, hqy, hqz⟩, hx, hy, hzz⟩ := hg
    obtain ⟨ls1, Y1, C1, a1, W1, co1, y1⟩ := p1.wk X hP hw hK pins s σ H xs I hqx
    obtain ⟨ls2, Y2, C2, a2, W2, co2, y2⟩ := p2.wk X hP hw hK pins s σ H ys I hqy
    obtain ⟨ls3, Y3, C3, a3, W3, co3, y3⟩ := p3.wk X hP hw hK pins s σ H zs I hqz
    have inj1 := fun l (hl : CpIt K H c l) => p1.inj X hP hw hK pins s σ H l xs I hl hqx
    have inj2 := fun l (hl : CpIt K H d l) => p2.inj X hP hw hK pins s σ H l ys I hl hqy
    have inj3 := fun l (hl : CpIt K H e l) => p3.inj X hP hw hK pins s σ H l zs I hl hqz
    subst hP hw hK
    have zl : I0 + 5 < s.heap.objs.size := Heap.lt_size hz
    have D : Ap3 (I0 + 5) (I0 + 3) (I0 + 4) I0 (I0 + 1) (I0 + 2) (ls1 ++ (ls2 ++ ls3)) := ⟨by simp, fun c hc => by
      have : c < I0 := by
        rcases List.mem_append.mp hc with h | h
        · exact a1 c h
        · rcases List.mem_append.mp h with h | h
          · exact a2 c h
          · exact a3 c h
      exact ap3_lt I0 c this⟩
    refine z3_pyNext W1 W2 W3 D hz hTI hTO m1 m2 m3 co1 co2 co3 (List.getElem?_eq_some_iff.mp hx).1 (List.getElem?_eq_some_iff.mp hy).1 (List.getElem?_eq_some_iff.mp hzz).1 fun u u2 u3 h2 tk yu yu2 yu3 z2 o2 n1 n2 n3 hT hk => ?_
    obtain ⟨x', ex, ru⟩ := y1 i u yu
    obtain ⟨y', ey, ru2⟩ := y2 i u2 yu2
    obtain ⟨z', ez, ru3⟩ := y3 i u3 yu3
    rw [hx] at ex
    cases ex
    rw [hy] at ey
    cases ey
    rw [hzz] at ez
    cases ez
    refine ⟨_, rfl, wpAny_letOwnedTupleGo_zip (s := { s with heap := h2, toks := tk }) z2 fun h3 z3 sb => ?_⟩
    have hT3 : h3.get? s.heap.objs.size = some { cls := .type "tuple", data := .seq #[u, u2, u3] } := (sb.2 _ (Nat.ne_of_gt zl)).trans hT
    have nw : ObjOk X.prog X.w (upd H s.heap.objs.size (.tup [x, y, z])) h3 s.heap.objs.size (.tup [x, y, z]) := ⟨by show 3 ≤ sizeLine; decide, [u, u2, u3], .cons ru (.cons ru2 (.cons ru3 .nil)), ⟨_, hT3, rfl, _, rfl⟩⟩
    have I1 : Inv X pins σ (upd H s.heap.objs.size (.tup [x, y, z])) { s with heap := h3, toks := tk } := by
      refine I.turnedNew (t' := tk) (ch := [I0 + 5, I0 + 3, I0 + 4, I0, I0 + 1, I0 + 2]) (fun c o hb q => ?_) hf (Nat.le_refl _) nw
      simp only [List.mem_cons, List.not_mem_nil, or_false, not_or] at hb
      exact (sb.2 c hb.1).trans (hk c o hb.1 hb.2.2.1 hb.2.2.2.1 hb.2.2.2.2.1 hb.2.2.2.2.2 q)
    have e5 : ∀ j : Nat, j < 5 → I0 + j ≠ I0 + 5 := ap3_5 I0
    refine ⟨.ref s.heap.objs.size, _, I1, rfl, ⟨_, x, y, z, rfl, I.hok.fresh (Nat.le_refl _), rfl, fun l hl => by rw [inj1 l hl]; exact hx, fun l hl => by rw [inj2 l hl]; exact hy, fun l hl => by rw [inj3 l hl]; exact hzz⟩, ⟨z3, ?_, ⟨u, u2, u3, ?_⟩, ?_, ?_, ?_⟩, fun c hcm => ?_⟩
    · exact (sb.2 _ (e5 3 (by omega))).trans (hk _ _ (e5 3 (by omega)) (by simp) (by simp) (by simp) (by simp) hTI)
    · exact (sb.2 _ (e5 4 (by omega))).trans o2
    · exact p1.keep n1 fun o q => (sb.2 _ (by simp)).trans q
    · exact p2.keep n2 fun o q => (sb.2 _ (by simp)).trans q
    · exact p3.keep n3 fun o q => (sb.2 _ (by simp)).trans q
    · have : c < s.heap.objs.size := by
        simp only [List.mem_cons, List.not_mem_nil, or_false] at hcm
        exact ap3_6 I0 c _ hcm zl
      rw [upd_ne (Nat.ne_of_lt this)]
      exact (hf c hcm).1
  done := by
    intro X hP hw hK hc i pins s σ H E I hf st hg
    obtain ⟨hz, hTI, ⟨x0, y0, z0, hTO⟩, m1, m2, m3⟩ := st
    obtain ⟨xs, ys, zs, ⟨hqx, hqy, hqz⟩, e12⟩ := hg
    obtain ⟨ls1, Y1, C1, a1, W1, co1, y1⟩ := p1.wk X hP hw hK pins s σ H xs I hqx
    obtain ⟨ls2, Y2, C2, a2, W2, co2, y2⟩ := p2.wk X hP hw hK pins s σ H ys I hqy
    obtain ⟨ls3, Y3, C3, a3, W3, co3, y3⟩ := p3.wk X hP hw hK pins s σ H zs I hqz
    subst hP hw hK
    have D : Ap3 (I0 + 5) (I0 + 3) (I0 + 4) I0 (I0 + 1) (I0 + 2) (ls1 ++ (ls2 ++ ls3)) := ⟨by simp, fun c hc => by
      have : c < I0 := by
        rcases List.mem_append.mp hc with h | h
        · exact a1 c h
        · rcases List.mem_append.mp h with h | h
          · exact a2 c h
          · exact a3 c h
      exact ap3_lt I0 c this⟩
    refine z3_pyEnd (I.ok.hd hc) W1 W2 W3 D hz hTI hTO m1 m2 m3 co1 co2 co3 e12 fun h2 tk hk => ⟨rfl, ?_⟩
    refine I.turnedL (t' := tk) (ch := [I0 + 5, I0 + 3, I0 + 4, I0, I0 + 1, I0 + 2]) (fun c o hb q => ?_) hf
    simp only [List.mem_cons, List.not_mem_nil, or_false, not_or] at hb
    exact hk c o hb.1 hb.2.2.1 hb.2.2.2.1 hb.2.2.2.2.1 hb.2.2.2.2.2 q
  self := fun A i s Q E st h => wpAny_pyIter_zip st.1 h
theorem cp_begin {X : Cx} {pins : List (Addr × Obj)} {σ : L2.St} {H : Hp} {s : Shared} (I : Inv X pins σ H s) {c : Cp} {xs : List V} (hq : CpIt X.K H c xs) {u : Value} (r : RelV c.v u) :
    ∃ ob Cn, Begins u ob Cn ∧ Cn s.heap ∧ ∀ it, ∃ St, Prt X.prog X.w X.K c it s.heap.objs.size St ∧ ∀ h' : Heap, h'.get? it = some ob → St 0 h' := by
  cases c with
  | t a =>
    cases r
    obtain ⟨its, rv, t1, _⟩ := I.tuple hq
    have la : a < s.heap.objs.size := by
      obtain ⟨o, ho, _⟩ := t1
      exact Heap.lt_size ho
    exact ⟨_, _, begins_tuple a its.toArray, t1, fun it => ⟨_, prt_t la, fun h' e => ⟨_, e, rfl, rfl⟩⟩⟩
  | l a =>
    cases r
    obtain ⟨its, rv, t1, _⟩ := I.list hq
    exact ⟨_, _, begins_list a its.toArray, t1.isList, fun it => ⟨_, prt_l t1.lt, fun h' e => ⟨_, e, rfl, rfl⟩⟩⟩
  | s x =>
    obtain ⟨t, rfl⟩ := r
    have hty : strIterType x = "str_ascii_iterator" ∨ strIterType x = "str_iterator" := by
      unfold strIterType
      split
      · exact .inl rfl
      · exact .inr rfl
    exact ⟨_, _, begins_text x t, trivial, fun it => ⟨_, prt_s (t := t) hty, fun h' e => ⟨_, e, rfl, rfl⟩⟩⟩
def iZip3 (K : PySem.W.Frag) (ta : TA) : TI := fun σ H R => ta σ H fun vs H1 => ∃ c d e xs ys zs, vs = [c.v, d.v, e.v] ∧ CpIt K H1 c xs ∧ CpIt K H1 d ys ∧ CpIt K H1 e zs ∧ R (Itz3 K c d e) H1
theorem pi_zip3 {X : Cx} {e e2 e3 : Expr} {ta : TA} {p pos tpos : Pos} {elts : List Expr} {kk : Nat} (hg : Gl X "zip") (hm : X.mg "zip" = none) (ha : PA X [e, e2, e3] ta)
    (hs : starEach [e, e2, e3] X.env = (false, eval e X.env) :: starEach [e2, e3] X.env := by rfl) (hpl : (backTo pos (starEach [e2, e3] X.env)).any (·.1) = false := by rfl) :
    PI X (.Tuple elts kk tpos) (.Call (.Name "zip" p) [e, e2, e3] [] pos) (iZip3 X.K ta) := by
  refine ⟨fun pins s σ H R I h => ?_⟩
  refine Call_ (ld_blt I hg hm boot_zip (callWith_type1 (thn (ha.run pos pins s σ H _ I h) fun us s1 ⟨vs, H1, I1, r1, q1⟩ => ?_) hs hpl))
  obtain ⟨c, d, e, xs, ys, zs, rfl, hc, hd, he, q⟩ := q1
  cases r1 with
  | cons ra rr =>
    cases rr with
    | cons rb rr =>
      cases rr with
      | cons rc rr =>
        cases rr
        obtain ⟨o1, C1, i1, c1, k1⟩ := cp_begin I1 hc ra
        obtain ⟨o2, C2, i2, c2, k2⟩ := cp_begin I1 hd rb
        obtain ⟨o3, C3, i3, c3, k3⟩ := cp_begin I1 he rc
        obtain ⟨S1, p1, z1⟩ := k1 s1.heap.objs.size
        obtain ⟨S2, p2, z2⟩ := k2 (s1.heap.objs.size + 1)
        obtain ⟨S3, p3, z3⟩ := k3 (s1.heap.objs.size + 2)
        refine zip_begins3 i1 i2 i3 c1 c2 c3 fun h' hz hTI hTO g1 g2 g3 _ hk => wpAny_pyIter_zip hz ?_
        have I2 : Inv X pins σ H1 { s1 with heap := h' } := I1.kept (t' := s1.toks) hk
        refine ⟨s1.heap.objs.size + 5, [s1.heap.objs.size + 5, s1.heap.objs.size + 3, s1.heap.objs.size + 4, s1.heap.objs.size, s1.heap.objs.size + 1, s1.heap.objs.size + 2], _, _, H1, rfl, I2, turn_zip3 p1 p2 p3, ⟨hz, hTI, ⟨_, _, _, hTO⟩, z1 _ g1, z2 _ g2, z3 _ g3⟩, fun c hcm => ?_, q⟩
        have le : s1.heap.objs.size ≤ c := by
          simp only [List.mem_cons, List.not_mem_nil, or_false] at hcm
          rcases hcm with rfl | rfl | rfl | rfl | rfl | rfl
          · exact Nat.le_add_right _ _
          · exact Nat.le_add_right _ _
          · exact Nat.le_add_right _ _
          · exact Nat.le_refl _
          · exact Nat.le_add_right _ _
          · exact Nat.le_add_right _ _
        exact I1.fpOk le (I1.hok.fresh le)
/-! ### at the level of data -/
def zipD3 : List D → List D → List D → List D
  | x :: xs, y :: ys, z :: zs => .tuple [x, y, z] :: zipD3 xs ys zs
  | _, _, _ => []
theorem zipD3_get : ∀ {xs ys zs : List D} {i : Nat} {v : D}, (zipD3 xs ys zs)[i]? = some v → ∃ x y z, xs[i]? = some x ∧ ys[i]? = some y ∧ zs[i]? = some z ∧ v = .tuple [x, y, z]
  | x :: xs, y :: ys, z :: zs, 0, v, h => by
    cases h
    exact ⟨x, y, z, rfl, rfl, rfl, rfl⟩
  | x :: xs, y :: ys, z :: zs, i + 1, v, h => zipD3_get (xs := xs) (ys := ys) (zs := zs) h
  | [], _, _, i, v, h => by simp [zipD3] at h
  | _ :: _, [], _, i, v, h => by simp [zipD3] at h
  | _ :: _, _ :: _, [], i, v, h => by simp [zipD3] at h
theorem zipD3_len : ∀ {xs ys zs : List D} {i : Nat}, (zipD3 xs ys zs).length ≤ i → xs.length ≤ i ∨ ys.length ≤ i ∨ zs.length ≤ i
  | [], _, _, i, _ => .inl (Nat.zero_le _)
  | _ :: _, [], _, i, _ => .inr (.inl (Nat.zero_le _))
  | _ :: _, _ :: _, [], i, _ => .inr (.inr (Nat.zero_le _))
  | x :: xs, y :: ys, z :: zs, 0, h => by simp [zipD3] at h
  | x :: xs, y :: ys, z :: zs, i + 1, h => by
    have := zipD3_len (xs := xs) (ys := ys) (zs := zs) (i := i) (by simpa [zipD3] using h)
    simp only [List.length_cons]
    omega
theorem itd_zip3 {K : PySem.W.Frag} {G : Hp} {c d e : Cp} {us ws rs : List V} {xs ys zs : List D} (h1 : ∀ G1, Same G G1 → CpIt K G1 c us) (h2 : DrAll K G us xs) (k1 : ∀ G1, Same G G1 → CpIt K G1 d ws) (k2 : DrAll K G ws ys) (l1 : ∀ G1, Same G G1 → CpIt K G1 e rs) (l2 : DrAll K G rs zs) : ItD K G (Itz3 K c d e) (zipD3 xs ys zs) := fun G1 H1 s1 s2 i => by
  have q := h1 H1 (s1.trans s2)
  have r := k1 H1 (s1.trans s2)
  have t := l1 H1 (s1.trans s2)
  refine ⟨fun v hv => ?_, fun hle => ?_⟩
  · obtain ⟨x, y, z, hx, hy, hz, rfl⟩ := zipD3_get hv
    obtain ⟨u1, eu, du⟩ := dpAll_get h2 hx
    obtain ⟨t1, et, dt⟩ := dpAll_get k2 hy
    obtain ⟨r1, er, dr⟩ := dpAll_get l2 hz
    refine ⟨⟨us, ws, rs, u1, t1, r1, ⟨q, r, t⟩, eu, et, er⟩, fun v2 H2 z => ?_⟩
    obtain ⟨T, x2, y2, w2, rfl, hT, rfl, z1, z2, z3⟩ := z
    have e1 := z1 us q
    have e2 := z2 ws r
    have e3 := z3 rs t
    rw [eu] at e1
    rw [et] at e2
    rw [er] at e3
    cases e1
    cases e2
    cases e3
    have sg := s1.trans (same_upd (o := .tup [u1, t1, r1]) (s2.free hT))
    exact ⟨_, Grow.new1 s2 hT, .tup (SqT.of upd_same) (.cons (dp_same sg du) (.cons (dp_same sg dt) (.cons (dp_same sg dr) .nil)))⟩
  · refine ⟨us, ws, rs, ⟨q, r, t⟩, ?_⟩
    rw [dpAll_len h2, dpAll_len k2, dpAll_len l2]
    exact zipD3_len hle
def miZip3 (a : MA) : MI := fun env P => a env fun as e1 => match as with
  | [.d x, .d y, .d z] => ∃ xs ys zs, itD x = some xs ∧ itD y = some ys ∧ itD z = some zs ∧ P (zipD3 xs ys zs) e1
  | _ => False
theorem gi_zip3 {X : Cx} {e e2 e3 : Expr} {m1 : MA} {n1 : Nat} {p pos tpos : Pos} {elts : List Expr} {kk : Nat} (hg : Gl X "zip") (hm : X.mg "zip" = none) (ha : GA X [e, e2, e3] n1 m1) (hs : starEach [e, e2, e3] X.env = (false, eval e X.env) :: starEach [e2, e3] X.env := by rfl) (hpl : (backTo pos (starEach [e2, e3] X.env)).any (·.1) = false := by rfl) :
    GI X (.Tuple elts kk tpos) (.Call (.Name "zip" p) [e, e2, e3] [] pos) n1 (miZip3 m1) := pi_imp (pi_zip3 hg hm ha hs hpl) fun σ H R h => by
  obtain ⟨W, B, G0, H0, G, env, P, Rl, hm1, q⟩ := h
  refine ⟨W, B, G0, H0, G, env, _, Rl, hm1, fun as e1 us G1 H1 p1 s1 R1 a1 => ?_⟩
  split at p1
  · obtain ⟨xs, ys, zs, hx, hy, hz, hP⟩ := p1
    cases a1 with
    | cons x1 y1 =>
      cases y1 with
      | cons y1 z1 =>
        cases z1 with
        | cons z1 n1 =>
          cases n1
          obtain ⟨c, vs, rfl, h1, h2⟩ := cp_of x1 hx
          obtain ⟨d, ws, rfl, k1, k2⟩ := cp_of y1 hy
          obtain ⟨f, rs, rfl, l1, l2⟩ := cp_of z1 hz
          exact ⟨c, d, f, vs, ws, rs, rfl, h1 _ R1.pub, k1 _ R1.pub, l1 _ R1.pub, q _ _ _ _ _ hP s1 R1 (itd_zip3 h1 h2 k1 k2 l1 l2)⟩
  · exact p1.elim
end DL
namespace DL
open PySem PySem.Spec PyProof.Rows L2
/-! ### data with numbers to a bound, lists, tuples, dicts under 0 -/
mutual
def ndx : D → Nat
  | .list xs => ndxA xs + 1
  | .tuple xs => ndxA xs + 1
  | .dict ks => ndxK ks + 1
  | _ => 1
def ndxA : List D → Nat
  | [] => 0
  | x :: r => ndx x + ndxA r
def ndxK : List (D × D) → Nat
  | [] => 0
  | (_, x) :: r => ndx x + 1 + ndxK r
end
mutual
def mdx (B : Nat) : D → Bool
  | .none => true
  | .bool _ => true
  | .int i => decide (i.natAbs ≤ B)
  | .str z => decide (z.cps.size ≤ 100) && z.cps.toList.all fun c => decide (c < 16 ^ 8)
  | .list xs => mdxA B xs
  | .tuple xs => mdxA B xs
  | .dict ks => mdxK B ks
def mdxA (B : Nat) : List D → Bool
  | [] => true
  | x :: r => mdx B x && mdxA B r
def mdxK (B : Nat) : List (D × D) → Bool
  | [] => true
  | (.int i, x) :: r => decide (i = 0) && (mdx B x && mdxK B r)
  | _ :: _ => false
end
theorem ndx_pos (x : D) : 1 ≤ ndx x := by cases x <;> simp [ndx]
mutual
theorem mdx_show {B : Nat} (hB : B < 2 ^ 136) : ∀ x : D, mdx B x = true → x.showable = true ∧ x.leavesShort 50 = true ∧ x.weight + 1 ≤ 142 * ndx x
  | .none, _ => ⟨rfl, rfl, by simp [PyData.weight, ndx]⟩
  | .bool _, _ => ⟨rfl, rfl, by simp [PyData.weight, ndx]⟩
  | .int i, h => by
    have h : i.natAbs < 2 ^ 136 := by
      have : i.natAbs ≤ B := by simpa [mdx] using h
      omega
    have l : i.natAbs.log2 ≤ 135 := by
      by_cases z : i.natAbs = 0
      · rw [z]
        decide
      · have := (Nat.log2_lt z (k := 136)).mpr h
        omega
    refine ⟨?_, ?_, ?_⟩
    · simp only [PyData.showable, decide_eq_true_eq]
      omega
    · simp only [PyData.leavesShort]
      exact decide_eq_true (Nat.le_trans (shown_mid h) (by decide))
    · simp only [PyData.weight, ndx]
      split <;> omega
  | .str z, h => by
    simp only [mdx, Bool.and_eq_true, decide_eq_true_eq] at h
    refine ⟨rfl, h.2, ?_⟩
    simp only [PyData.weight, ndx]
    omega
  | .tuple xs, h => by
    obtain ⟨h1, h3, h4⟩ := mdxA_show hB xs (by simpa [mdx] using h)
    refine ⟨by simpa [PyData.showable] using h1, by simpa [PyData.leavesShort] using h3, ?_⟩
    simp only [PyData.weight, ndx]
    omega
  | .list xs, h => by
    obtain ⟨h1, h3, h4⟩ := mdxA_show hB xs (by simpa [mdx] using h)
    refine ⟨by simpa [PyData.showable] using h1, by simpa [PyData.leavesShort] using h3, ?_⟩
    simp only [PyData.weight, ndx]
    omega
  | .dict ks, h => by
    obtain ⟨h1, h3, h4⟩ := mdxK_show hB ks (by simpa [mdx] using h)
    refine ⟨by simpa [PyData.showable] using h1, by simpa [PyData.leavesShort] using h3, ?_⟩
    simp only [PyData.weight, ndx]
    omega
theorem mdxA_show {B : Nat} (hB : B < 2 ^ 136) : ∀ xs : List D, mdxA B xs = true → PyData.showableAll xs = true ∧ PyData.leavesShortAll 50 xs = true ∧ PyData.weightAll xs ≤ 142 * ndxA xs
  | [], _ => ⟨rfl, rfl, by simp [PyData.weightAll]⟩
  | x :: r, h => by
    simp only [mdxA, Bool.and_eq_true] at h
    obtain ⟨a1, a3, a4⟩ := mdx_show hB x h.1
    obtain ⟨b1, b3, b4⟩ := mdxA_show hB r h.2
    refine ⟨by simp [PyData.showableAll, a1, b1], by simp [PyData.leavesShortAll, a3, b3], ?_⟩
    simp only [PyData.weightAll, ndxA]
    omega
theorem mdxK_show {B : Nat} (hB : B < 2 ^ 136) : ∀ ks : List (D × D), mdxK B ks = true → PyData.showableKv ks = true ∧ PyData.leavesShortKv 50 ks = true ∧ PyData.weightKv ks ≤ 142 * ndxK ks
  | [], _ => ⟨rfl, rfl, by simp [PyData.weightKv]⟩
  | (.int i, x) :: r, h => by
    simp only [mdxK, Bool.and_eq_true, decide_eq_true_eq] at h
    obtain ⟨rfl, h1, h2⟩ := h
    obtain ⟨a1, a3, a4⟩ := mdx_show hB x h1
    obtain ⟨b1, b3, b4⟩ := mdxK_show hB r h2
    have k3 : (PyData.int 0).leavesShort 50 = true := by
      simp only [PyData.leavesShort]
      exact decide_eq_true (Nat.le_trans (shown_mid (by decide)) (by decide))
    refine ⟨by simp [PyData.showableKv, PyData.showable, a1, b1], by simp [PyData.leavesShortKv, k3, a3, b3], ?_⟩
    simp only [PyData.weightKv, PyData.weight, ndxK]
    simp
    omega
  | (.none, x) :: r, h => by simp [mdxK] at h
  | (.bool _, x) :: r, h => by simp [mdxK] at h
  | (.str _, x) :: r, h => by simp [mdxK] at h
  | (.list _, x) :: r, h => by simp [mdxK] at h
  | (.tuple _, x) :: r, h => by simp [mdxK] at h
  | (.dict _, x) :: r, h => by simp [mdxK] at h
end
def Mx (B d n : Nat) (x : D) : Prop := mdx B x = true ∧ x.depth ≤ d ∧ ndx x ≤ n
def MxA (B d n : Nat) (xs : List D) : Prop := mdxA B xs = true ∧ PyData.depthAll xs ≤ d ∧ ndxA xs ≤ n
theorem Mx.repr {B d n : Nat} {x : D} (h : Mx B d n x) (hB : B < 2 ^ 136) (hd : d ≤ 60) (hn : n ≤ 2200) : x.showable = true ∧ x.depth ≤ 60 ∧ x.shown.length ≤ sizeLine := by
  obtain ⟨h1, h3, h4⟩ := mdx_show hB x h.1
  have hs := PyData.shown_le 50 (by decide) x h3
  have n2 := h.2.2
  refine ⟨h1, Nat.le_trans h.2.1 hd, ?_⟩
  rw [sizeLine_eq]
  omega
mutual
theorem mdx_le {B C : Nat} (h : B ≤ C) : ∀ x : D, mdx B x = true → mdx C x = true
  | .none, _ => rfl
  | .bool _, _ => rfl
  | .int i, q => by
    simp only [mdx, decide_eq_true_eq] at q ⊢
    omega
  | .str _, q => by simpa [mdx] using q
  | .list xs, q => by
    rw [mdx] at q ⊢
    exact mdxA_le h xs q
  | .tuple xs, q => by
    rw [mdx] at q ⊢
    exact mdxA_le h xs q
  | .dict ks, q => by
    rw [mdx] at q ⊢
    exact mdxK_le h ks q
theorem mdxA_le {B C : Nat} (h : B ≤ C) : ∀ xs : List D, mdxA B xs = true → mdxA C xs = true
  | [], _ => rfl
  | x :: r, q => by
    rw [mdxA, Bool.and_eq_true] at q ⊢
    exact ⟨mdx_le h x q.1, mdxA_le h r q.2⟩
theorem mdxK_le {B C : Nat} (h : B ≤ C) : ∀ ks : List (D × D), mdxK B ks = true → mdxK C ks = true
  | [], _ => rfl
  | (.int i, x) :: r, q => by
    rw [mdxK, Bool.and_eq_true, Bool.and_eq_true] at q ⊢
    exact ⟨q.1, mdx_le h x q.2.1, mdxK_le h r q.2.2⟩
  | (.none, x) :: r, h => by simp [mdxK] at h
  | (.bool _, x) :: r, h => by simp [mdxK] at h
  | (.str _, x) :: r, h => by simp [mdxK] at h
  | (.list _, x) :: r, h => by simp [mdxK] at h
  | (.tuple _, x) :: r, h => by simp [mdxK] at h
  | (.dict _, x) :: r, h => by simp [mdxK] at h
end
section
variable {B C d n m e d' n' : Nat} {x : D} {xs ys : List D}
theorem Mx.le (h : Mx B d n x) (hB : B ≤ C) (hd : d ≤ d') (hn : n ≤ n') : Mx C d' n' x := ⟨mdx_le hB x h.1, Nat.le_trans h.2.1 hd, Nat.le_trans h.2.2 hn⟩
theorem MxA.le (h : MxA B d n xs) (hB : B ≤ C) (hd : d ≤ d') (hn : n ≤ n') : MxA C d' n' xs := ⟨mdxA_le hB xs h.1, Nat.le_trans h.2.1 hd, Nat.le_trans h.2.2 hn⟩
theorem mx_int {i : Int} (h : i.natAbs ≤ B) : Mx B 0 1 (.int i) := ⟨by simpa [mdx] using h, by simp [PyData.depth], by simp [ndx]⟩
theorem mx_none : Mx B 0 1 .none := ⟨rfl, by simp [PyData.depth], by simp [ndx]⟩
theorem mx_bool {b : Bool} : Mx B 0 1 (.bool b) := ⟨rfl, by simp [PyData.depth], by simp [ndx]⟩
theorem mx_str {z : Str} (h : mdx 0 (.str z) = true) : Mx B 0 1 (.str z) := ⟨by simpa [mdx] using h, by simp [PyData.depth], by simp [ndx]⟩
theorem mx_nil : MxA B d n [] := ⟨rfl, by simp [PyData.depthAll], by simp [ndxA]⟩
theorem mx_cons (h : Mx B d n x) (t : MxA B d m xs) : MxA B d (n + m) (x :: xs) :=
  ⟨by rw [mdxA, h.1, t.1]; rfl, by rw [PyData.depthAll]; exact Nat.max_le.mpr ⟨h.2.1, t.2.1⟩, by rw [ndxA]; exact Nat.add_le_add h.2.2 t.2.2⟩
theorem mx_tup (h : MxA B d n xs) : Mx B (d + 1) (n + 1) (.tuple xs) :=
  ⟨by rw [mdx]; exact h.1, by rw [PyData.depth]; exact Nat.add_le_add_right h.2.1 1, by rw [ndx]; exact Nat.add_le_add_right h.2.2 1⟩
theorem mx_lst (h : MxA B d n xs) : Mx B (d + 1) (n + 1) (.list xs) :=
  ⟨by rw [mdx]; exact h.1, by rw [PyData.depth]; exact Nat.add_le_add_right h.2.1 1, by rw [ndx]; exact Nat.add_le_add_right h.2.2 1⟩
theorem mx_dic0 : Mx B 1 1 (.dict []) := ⟨by rw [mdx]; rfl, by rw [PyData.depth, PyData.depthKv]; exact Nat.le_refl _, by rw [ndx, ndxK]; exact Nat.le_refl _⟩
theorem mx_dic1 (h : Mx B d n x) : Mx B (d + 1) (n + 2) (.dict [(.int 0, x)]) := by
  refine ⟨?_, ?_, ?_⟩
  · rw [mdx, mdxK, mdxK, h.1]
    rfl
  · have := h.2.1
    simp only [PyData.depth, PyData.depthKv]
    omega
  · have := h.2.2
    simp only [ndx, ndxK]
    omega
theorem mx_all : ∀ {xs : List D}, (∀ x ∈ xs, Mx B d n x) → MxA B d (n * xs.length) xs
  | [], _ => mx_nil
  | x :: xs, h => by
    have := mx_cons (h x List.mem_cons_self) (mx_all (xs := xs) fun y hy => h y (List.mem_cons_of_mem _ hy))
    refine this.le (Nat.le_refl _) (Nat.le_refl _) ?_
    rw [List.length_cons, Nat.mul_add]
    omega
theorem MxA.un (h : MxA B d n (x :: xs)) : Mx B d n x ∧ MxA B d n xs ∧ ndx x + ndxA xs ≤ n := by
  obtain ⟨h1, h2, h3⟩ := h
  rw [mdxA, Bool.and_eq_true] at h1
  rw [PyData.depthAll] at h2
  rw [ndxA] at h3
  exact ⟨⟨h1.1, Nat.le_trans (Nat.le_max_left _ _) h2, by omega⟩, ⟨h1.2, Nat.le_trans (Nat.le_max_right _ _) h2, by omega⟩, h3⟩
theorem MxA.app : ∀ {xs : List D} {n : Nat}, MxA B d n xs → MxA B d m ys → MxA B d (n + m) (xs ++ ys)
  | [], n, _, h => h.le (Nat.le_refl _) (Nat.le_refl _) (by omega)
  | x :: xs, n, h, h2 => by
    obtain ⟨a, b, c⟩ := h.un
    have t := MxA.app (n := ndxA xs) (xs := xs) ⟨b.1, b.2.1, Nat.le_refl _⟩ h2
    exact (mx_cons (n := ndx x) ⟨a.1, a.2.1, Nat.le_refl _⟩ t).le (Nat.le_refl _) (Nat.le_refl _) (by omega)
theorem MxA.take : ∀ {xs : List D} {n : Nat} (k : Nat), MxA B d n xs → MxA B d n (xs.take k)
  | [], n, k, h => by rw [List.take_nil]; exact h
  | x :: xs, n, 0, _ => mx_nil
  | x :: xs, n, k + 1, h => by
    obtain ⟨a, b, c⟩ := h.un
    have t := MxA.take (n := ndxA xs) k (xs := xs) ⟨b.1, b.2.1, Nat.le_refl _⟩
    exact (mx_cons (n := ndx x) ⟨a.1, a.2.1, Nat.le_refl _⟩ t).le (Nat.le_refl _) (Nat.le_refl _) c
theorem MxA.drop : ∀ {xs : List D} {n : Nat} (k : Nat), MxA B d n xs → MxA B d n (xs.drop k)
  | xs, n, 0, h => h
  | [], n, k + 1, h => h
  | x :: xs, n, k + 1, h => MxA.drop k h.un.2.1
theorem MxA.mem : ∀ {xs : List D} {x : D}, MxA B d n xs → x ∈ xs → Mx B d n x
  | y :: xs, x, h, hx => by
    rcases List.mem_cons.mp hx with rfl | hx
    · exact h.un.1
    · exact MxA.mem h.un.2.1 hx
theorem MxA.len : ∀ {xs : List D} {n : Nat}, MxA B d n xs → xs.length ≤ n
  | [], n, _ => Nat.zero_le _
  | x :: xs, n, h => by
    obtain ⟨a, b, c⟩ := h.un
    have := MxA.len (n := ndxA xs) (xs := xs) ⟨b.1, b.2.1, Nat.le_refl _⟩
    have hx := ndx_pos x
    rw [List.length_cons]
    omega
theorem MxA.rev (h : MxA B d n xs) : MxA B d n xs.reverse := by
  induction xs generalizing n with
  | nil => exact h
  | cons x xs ih =>
    obtain ⟨a, b, c⟩ := h.un
    rw [List.reverse_cons]
    have t := ih (n := ndxA xs) ⟨b.1, b.2.1, Nat.le_refl _⟩
    exact (t.app (mx_cons (n := ndx x) (m := 0) ⟨a.1, a.2.1, Nat.le_refl _⟩ mx_nil)).le (Nat.le_refl _) (Nat.le_refl _) (by omega)
theorem MxA.split {k : Nat} (h : xs[k]? = some x) : ndxA xs = ndxA (xs.take k) + ndx x + ndxA (xs.drop (k + 1)) := by
  induction xs generalizing k with
  | nil => simp at h
  | cons y xs ih =>
    cases k with
    | zero =>
      cases h
      rw [ndxA, List.take_zero, ndxA, List.drop_succ_cons, List.drop_zero]
      omega
    | succ k =>
      have := ih (k := k) h
      rw [ndxA, List.take_succ_cons, ndxA, List.drop_succ_cons, this]
      omega
theorem Mx.of_tup (h : Mx B d n (.tuple xs)) : MxA B (d - 1) (n - 1) xs ∧ 1 ≤ d ∧ 1 ≤ n := by
  obtain ⟨h1, h2, h3⟩ := h
  rw [mdx] at h1
  rw [PyData.depth] at h2
  rw [ndx] at h3
  exact ⟨⟨h1, by omega, by omega⟩, by omega, by omega⟩
end
end DL
namespace DL
open PySem PySem.Spec PyProof.Rows L2
/-! ### objects that are written: read and stored in their slots -/
/-- x[e], x a list that is written -/
def mIxM (i : Nat) (mb : ME) : ME := fun env P => (∃ w xs, env[i]? = some (.mo w (.lst xs))) ∧ mb env fun y e1 => match e1[i]?, y with
  | some (.mo _ (.lst xs)), .int k => ∃ x, atI xs k = some x ∧ P x e1
  | _, _ => False
/-- x[k] = e -/
def sIxM (i : Nat) (mv mk : ME) : MS := fun E env => mv env fun x e1 => (∃ w xs, e1[i]? = some (.mo w (.lst xs))) ∧ mk e1 fun y e2 => match e2[i]?, y with
  | some (.mo w (.lst xs)), .int k => ∃ j, ixN xs.length k = some j ∧ E.nx (e2.set i (.mo w (.lst (xs.set j x))))
  | _, _ => False
/-- len(x) -/
def mLenM (i : Nat) : ME := fun env P => match env[i]? with
  | some (.mo _ (.lst xs)) => P (.int xs.length) env
  | _ => False
section
variable {X : Cx} {e b : Expr} {i : Nat} {x : Str} {px p pos pos' : Pos} {mb mv : ME} {nb nv : Nat}
theorem ge_ixM (i : Nat) {x : Str} {b : Expr} (hb : GE X b nb mb) (hs : PlainIx b) (hN : X.N[i]? = some x := by rfl) (hv : Vis X.env.scope x := by first | exact Or.inl rfl | exact Or.inr (Or.inl rfl) | exact Or.inr (Or.inr rfl)) (hd : (x == ("__debug__" : Str)) = false := by decide)
    (hcd : (x == ("__classdict__" : Str)) = false := by decide) : GE X (.Subscript (.Name x px) b pos) nb (mIxM i mb) := pe_imp (pe_ix ix_list (pe_var hN hv hd hcd) hb hs) fun σ H Q h => by
  obtain ⟨W, B, G0, H0, G, env, P, R, ⟨⟨w, xs, hx⟩, hm⟩, q⟩ := h
  obtain ⟨l, e1, _, _, vs, hl, hq⟩ := R.get_mo hx
  refine ⟨_, e1, W, B, G0, H0, G, env, _, R, hm, fun y e2 v G2 H2 p2 s2 R2 d2 => ?_⟩
  split at p2
  · rename_i w2 ys k hy
    obtain ⟨l2, f1, _, _, us, hl2, hq2⟩ := R2.get_mo hy
    rw [e1] at f1
    cases f1
    cases dp_int d2
    obtain ⟨z, ez, hP⟩ := p2
    obtain ⟨u, eu, du⟩ := dpAll_atI hq2 ez
    exact ⟨l, us, _, u, rfl, rfl, SqL.of hl2, eu, q _ _ _ _ _ hP s2 R2 du⟩
  · exact p2.elim
theorem gs_ixM (i : Nat) {x : Str} {e b : Expr} (he : GE X e nv mv) (hb : GE X b nb mb) (hN : X.N[i]? = some x := by rfl) (hv : Vis X.env.scope x := by first | exact Or.inl rfl | exact Or.inr (Or.inl rfl) | exact Or.inr (Or.inr rfl)) (hd : (x == ("__debug__" : Str)) = false := by decide)
    (hcd : (x == ("__classdict__" : Str)) = false := by decide)
    (ha : ∀ v, assign (.Subscript (.Name x px) b pos') X.env v = (do
      let ov ← holding [v] (eval (.Name x px) X.env)
      let iv ← holding [v, ov] (eval b X.env)
      standAt pos'
      holding [v, ov, iv] (setItem ov iv v)
      release [v, ov, iv] []) := by intro _; rfl)
    (hs : swapsWithSole [.Subscript (.Name x px) b pos'] e pos.line X.env = pure false := by rfl) (hw : swappedStores [.Subscript (.Name x px) b pos'] e X.env = pure none := by rfl)
    (h1 : (assignEach [.Subscript (.Name x px) b pos'] X.env).map (·.2) = [assign (.Subscript (.Name x px) b pos') X.env] := by rfl) :
    GS X (.Assign [.Subscript (.Name x px) b pos'] e pos) (nv + nb) (sIxM i mv mb) := ps_imp (ps_asg he (pg_sub (pe_var hN hv hd hcd) hb set_list ha) hs hw h1) fun D σ H h => by
  obtain ⟨W, B, G0, H0, G, env, E, R, hm, q⟩ := h
  refine ⟨W, B + nb, G0, H0, G, env, _, R.le (by omega), hm, fun x e1 v G1 H1 p1 s1 R1 d1 => ?_⟩
  obtain ⟨⟨w, xs, hx⟩, p1⟩ := p1
  obtain ⟨l, f1, _, _, vs, hl, hq⟩ := R1.get_mo hx
  refine ⟨_, f1, W, B, G0, H0, G1, e1, _, R1, p1, fun y e2 u G2 H2 p2 s2 R2 d2 => ?_⟩
  split at p2
  · rename_i w2 ys k hy
    obtain ⟨l2, f2, _, _, us, hl2, hq2⟩ := R2.get_mo hy
    rw [f1] at f2
    cases f2
    cases dp_int d2
    obtain ⟨j, ej, hP⟩ := p2
    refine ⟨l, us, _, j, rfl, rfl, hl2, by rw [dpAll_len hq2]; exact ej, ?_⟩
    exact q.nx _ _ _ _ hP (s1.trans s2) (R2.put hy f1 ⟨_, upd_same, dpAll_set (dp_same s2 d1) j hq2⟩)
  · exact p2.elim
end
/-! ### calls to which objects are lent -/
abbrev SpM := List EV → (D → List SC → Prop) → Prop
inductive ArgsM (K : PySem.W.Frag) (k : Wk) (σ : L2.St) (G : Hp) : List V → List EV → Prop
  | nil : ArgsM K k σ G [] []
  | cons {v : V} {vs : List V} {a : EV} {as : List EV} : ArgOk K k G a v → ArgsM K k σ G vs as → ArgsM K k σ G (v :: vs) (a :: as)
  | at {i : Nat} {v : V} {vs : List V} {as : List EV} : σ[i]? = some (some v) → ArgsM K k σ G vs as → ArgsM K k σ G (v :: vs) (.at i :: as)
theorem argOk_same {K : PySem.W.Frag} {k : Wk} {G G' : Hp} {a : EV} {v : V} (e : Same G G') (h : ArgOk K k G a v) : ArgOk K k G' a v := by
  cases a with
  | d x => exact dp_same (v := v) e h
  | hd => exact h
  | un => exact h.elim
  | mo _ _ => exact h.elim
  | «at» _ => exact h.elim
theorem argsM_same {K : PySem.W.Frag} {k : Wk} {σ : L2.St} {G G' : Hp} (e : Same G G') : ∀ {vs : List V} {as : List EV}, ArgsM K k σ G vs as → ArgsM K k σ G' vs as
  | _, _, .nil => .nil
  | _, _, .cons a t => .cons (argOk_same e a) (argsM_same e t)
  | _, _, .at a t => .at a (argsM_same e t)
def tB (K : PySem.W.Frag) (n : Nat) (m : MA) : TA := fun σ H Q => ∃ (W : Wd) (B : Nat) (G0 H0 G : Hp) (env : DEnv) (P : List EV → DEnv → Prop), Rel K W (B + n) G0 H0 G env σ H ∧ m env P ∧
  ∀ as env' vs G' H', P as env' → Same G G' → Rel K W B G0 H0 G' env' σ H' → ArgsM K W.dk σ G' vs as → Q vs H'
abbrev GB (X : Cx) (es : List Expr) (n : Nat) (m : MA) : Prop := PA X es (tB X.K n m)
section
variable {X : Cx} {e : Expr} {es : List Expr} {pos : Pos} {me : ME} {m1 : MA} {ne n1 : Nat}
theorem gb_nil : GB X [] 0 mNil := pa_imp pa_nil fun σ H Q h => by
  obtain ⟨W, B, G0, H0, G, env, P, R, hm, q⟩ := h
  exact q _ _ _ _ _ hm (Same.refl _) R .nil
theorem gb_cons (ha : GE X e ne me) (hr : GB X es n1 m1) (hs : starEach (e :: es) X.env = (false, eval e X.env) :: starEach es X.env := by rfl) : GB X (e :: es) (ne + n1) (mCons me m1) := pa_imp (pa_cons ha hr hs) fun σ H Q h => by
  obtain ⟨W, B, G0, H0, G, env, P, R, hm, q⟩ := h
  refine ⟨W, B + n1, G0, H0, G, env, _, R.le (by omega), hm, fun x e1 v G1 H1 p1 s1 R1 d1 => ⟨W, _, G0, H0, G1, e1, _, R1, p1, fun as e2 vs G2 H2 p2 s2 R2 d2 => ?_⟩⟩
  exact q _ e2 _ G2 H2 p2 (s1.trans s2) R2 (.cons (a := .d x) (dp_same s2 d1) d2)
theorem gb_hd (i : Nat) {x : Str} (hr : GB X es n1 m1) (hN : X.N[i]? = some x := by rfl) (hv : Vis X.env.scope x := by first | exact Or.inl rfl | exact Or.inr (Or.inl rfl) | exact Or.inr (Or.inr rfl)) (hd : (x == ("__debug__" : Str)) = false := by decide)
    (hcd : (x == ("__classdict__" : Str)) = false := by decide) (hs : starEach (.Name x pos :: es) X.env = (false, eval (.Name x pos) X.env) :: starEach es X.env := by rfl) : GB X (.Name x pos :: es) n1 (mConsH i m1) := pa_imp (pa_cons (pe_var hN hv hd hcd) hr hs) fun σ H Q h => by
  obtain ⟨W, B, G0, H0, G, env, P, R, hm, q⟩ := h
  unfold mConsH at hm
  split at hm
  · obtain ⟨e1, nn⟩ := R.get_hd (by assumption)
    refine ⟨_, e1, W, B, G0, H0, G, env, _, R, hm, fun as e2 vs G2 H2 p2 s2 R2 d2 => ?_⟩
    exact q _ e2 _ G2 H2 p2 s2 R2 (.cons (a := .hd) ⟨rfl, nn⟩ d2)
  · exact hm.elim
theorem gb_mo (i : Nat) {x : Str} (hr : GB X es n1 m1) (hN : X.N[i]? = some x := by rfl) (hv : Vis X.env.scope x := by first | exact Or.inl rfl | exact Or.inr (Or.inl rfl) | exact Or.inr (Or.inr rfl)) (hd : (x == ("__debug__" : Str)) = false := by decide)
    (hcd : (x == ("__classdict__" : Str)) = false := by decide) (hs : starEach (.Name x pos :: es) X.env = (false, eval (.Name x pos) X.env) :: starEach es X.env := by rfl) : GB X (.Name x pos :: es) n1 (mConsM i m1) := pa_imp (pa_cons (pe_var hN hv hd hcd) hr hs) fun σ H Q h => by
  obtain ⟨W, B, G0, H0, G, env, P, R, hm, q⟩ := h
  unfold mConsM at hm
  split at hm
  · obtain ⟨l, e1, _⟩ := R.get_mo (by assumption)
    refine ⟨_, e1, W, B, G0, H0, G, env, _, R, hm, fun as e2 vs G2 H2 p2 s2 R2 d2 => ?_⟩
    exact q _ e2 _ G2 H2 p2 s2 R2 (.at e1 d2)
  · exact hm.elim
end
/-- the arguments as the callee sees them: the slots' contents, numbered -/
def resM : List EV → DEnv → Nat → Option (List EV)
  | [], _, _ => some []
  | .at i :: r, e, n => match e[i]? with
    | some (.mo _ c) => (resM r e (n + 1)).map (.mo (some n) c :: ·)
    | _ => none
  | a :: r, e, n => (resM r e n).map (a :: ·)
/-- the slots that are lent -/
def atsM : List EV → List Nat
  | [] => []
  | .at i :: r => i :: atsM r
  | _ :: r => atsM r
/-- the new contents put back -/
def putM : DEnv → List Nat → List SC → DEnv
  | e, i :: is, c :: cs => match e[i]? with
    | some (.mo w _) => putM (e.set i (.mo w c)) is cs
    | _ => putM e is cs
  | e, _, _ => e
def mCallM (sp : SpM) (a : MA) : ME := fun env P => a env fun as e1 => (atsM as).Nodup ∧ ∃ as', resM as e1 0 = some as' ∧ sp as' fun x cs => P x (putM e1 (atsM as) cs)
/-- the callee's arguments: the lent ones in order from n on -/
inductive ArgsL (K : PySem.W.Frag) (k : Wk) (sh : List Addr) (G H : Hp) : Nat → List V → List EV → Prop
  | nil : ArgsL K k sh G H sh.length [] []
  | cons {n : Nat} {v : V} {vs : List V} {a : EV} {as : List EV} : ArgOk K k G a v → ArgsL K k sh G H n vs as → ArgsL K k sh G H n (v :: vs) (a :: as)
  | mo {n : Nat} {l : Addr} {c : SC} {vs : List V} {as : List EV} : sh[n]? = some l → ScOk K G H l c → ArgsL K k sh G H (n + 1) vs as → ArgsL K k sh G H n (.ref l :: vs) (.mo (some n) c :: as)
theorem argsL_len {K : PySem.W.Frag} {k : Wk} {sh : List Addr} {G H : Hp} : ∀ {n : Nat} {vs : List V} {as : List EV}, ArgsL K k sh G H n vs as → vs.length = as.length
  | _, _, _, .nil => rfl
  | _, _, _, .cons _ t => congrArg (· + 1) (argsL_len t)
  | _, _, _, .mo _ _ t => congrArg (· + 1) (argsL_len t)
/-- a def's promise: as spD, the contents of what was lent told, too -/
def spDM (K : PySem.W.Frag) (c : Nat) (sp : SpM) : Sp := fun vs H Q _ => ∃ (W : Wd) (B : Nat) (G : Hp) (as : List EV) (P : D → List SC → Prop), W.sh.Nodup ∧ RW W (B + c) G H G H ∧ ArgsL K W.dk W.sh G H 0 vs as ∧ sp as P ∧
  ∀ x v cs G' H', P x cs → RW W B G H G' H' → (∀ (j : Nat) l, W.sh[j]? = some l → ∃ c', cs[j]? = some c' ∧ ScOk K G' H' l c') → Dr K G' v x → Q v H'
end DL
namespace DL
open PySem PySem.Spec PyProof.Rows L2
section
variable {K : PySem.W.Frag} {k : Wk} {sh : List Addr} {G H : Hp}
theorem argsL_get : ∀ {n i : Nat} {vs : List V} {as : List EV} {a : EV}, ArgsL K k sh G H n vs as → as[i]? = some a →
    ∃ v, vs[i]? = some v ∧ (ArgOk K k G a v ∨ ∃ j l c, a = .mo (some j) c ∧ v = .ref l ∧ sh[j]? = some l ∧ ScOk K G H l c ∧ n ≤ j)
  | _, 0, _, _, _, .cons a _, h => by
    cases h
    exact ⟨_, rfl, .inl a⟩
  | n, 0, _, _, _, .mo h1 h2 _, h => by
    cases h
    exact ⟨_, rfl, .inr ⟨n, _, _, rfl, rfl, h1, h2, Nat.le_refl _⟩⟩
  | _, i + 1, _, _, _, .cons _ t, h => argsL_get (i := i) t h
  | n, i + 1, _, _, _, .mo _ _ t, h => by
    obtain ⟨v, e, q⟩ := argsL_get (i := i) t h
    refine ⟨v, e, ?_⟩
    rcases q with q | ⟨j, l, c, r1, r2, r3, r4, r5⟩
    · exact .inl q
    · exact .inr ⟨j, l, c, r1, r2, r3, r4, by omega⟩
theorem argsL_lt : ∀ {n i i' : Nat} {vs : List V} {as : List EV} {j j' : Nat} {c c' : SC}, ArgsL K k sh G H n vs as → as[i]? = some (.mo (some j) c) → as[i']? = some (.mo (some j') c') → i < i' → j < j'
  | _, 0, _, _, _, _, _, _, _, .cons a _, h1, _, _ => by
    cases h1
    exact a.elim
  | n, 0, i' + 1, _, _, _, _, _, _, .mo _ _ t, h1, h2, _ => by
    cases h1
    obtain ⟨v, e, q⟩ := argsL_get t h2
    rcases q with q | ⟨j, l, c, r1, r2, r3, r4, r5⟩
    · exact q.elim
    · cases r1
      omega
  | _, i + 1, i' + 1, _, _, _, _, _, _, .cons _ t, h1, h2, hl => argsL_lt (i := i) (i' := i') t h1 h2 (by omega)
  | _, i + 1, i' + 1, _, _, _, _, _, _, .mo _ _ t, h1, h2, hl => argsL_lt (i := i) (i' := i') t h1 h2 (by omega)
end
theorem rel_startM {K : PySem.W.Frag} {W : Wd} {B : Nat} {G H : Hp} {vs : List V} {as : List EV} (N : List Str) (nd : W.sh.Nodup) (r : RW W B G H G H) (a : ArgsL K W.dk W.sh G H 0 vs as) : Rel K W B G H G (env0 N as) (L2.start N vs) H := by
  have hl := argsL_len a
  have key : ∀ (i : Nat) e s, (env0 N as)[i]? = some e → (L2.start N vs)[i]? = some s → e = .un ∨ (as[i]? = some e ∧ ∃ v, s = some v ∧ (ArgOk K W.dk G e v ∨ ∃ j l c, e = .mo (some j) c ∧ v = .ref l ∧ W.sh[j]? = some l ∧ ScOk K G H l c ∧ 0 ≤ j)) := fun i e s h1 h2 => by
    unfold env0 at h1
    unfold L2.start at h2
    by_cases hi : i < as.length
    · rw [List.getElem?_append_left hi] at h1
      rw [List.getElem?_append_left (by rw [List.length_map]; omega), List.getElem?_map] at h2
      obtain ⟨v, e1, q⟩ := argsL_get a h1
      rw [e1] at h2
      cases h2
      exact .inr ⟨h1, v, rfl, q⟩
    · rw [List.getElem?_append_right (by omega)] at h1
      obtain ⟨h3, h4⟩ := List.getElem?_eq_some_iff.mp h1
      rw [List.getElem_replicate] at h4
      exact .inl h4.symm
  have gm : ∀ l j, W.sh[j]? = some l → G l = none := fun l j h => r.gm l (.inr (List.mem_of_getElem? h))
  refine { r with len := ?_, slot := fun i e s h1 h2 => ?_, dis := fun i j wi ci wj cj l ne h1 h2 h3 h4 => ?_ }
  · unfold env0 L2.start
    rw [List.length_append, List.length_append, List.length_map, List.length_replicate, List.length_replicate, hl]
  · rcases key i e s h1 h2 with rfl | ⟨_, v, rfl, q | ⟨j, l, c, rfl, rfl, hj, hc, _⟩⟩
    · trivial
    · cases e with
      | un => trivial
      | d x => exact ⟨v, rfl, q⟩
      | mo w c => exact q.elim
      | «at» _ => trivial
      | hd => exact ⟨congrArg some q.1, q.2⟩
    · exact ⟨l, rfl, gm l j hj, hj, hc⟩
  · rcases key i _ _ h1 h3 with e | ⟨a1, v, ev, q | ⟨j1, l1, c1, e1, rfl, hj1, _, _⟩⟩
    · cases e
    · exact q.elim
    · rcases key j _ _ h2 h4 with e | ⟨a2, v2, ev2, q | ⟨j2, l2, c2, e2, rfl, hj2, _, _⟩⟩
      · cases e
      · exact q.elim
      · cases ev
        cases ev2
        cases e1
        cases e2
        have : j1 = j2 := by
          obtain ⟨b1, g1⟩ := List.getElem?_eq_some_iff.mp hj1
          obtain ⟨b2, g2⟩ := List.getElem?_eq_some_iff.mp hj2
          exact (List.getElem_inj (h₀ := b1) (h₁ := b2) nd).mp (g1.trans g2.symm)
        subst this
        rcases Nat.lt_or_gt_of_ne ne with h | h
        · exact absurd (argsL_lt a a1 a2 h) (Nat.lt_irrefl _)
        · exact absurd (argsL_lt a a2 a1 h) (Nat.lt_irrefl _)
/-- the contents of what was lent, at the end -/
def finM : List EV → DEnv → Option (List SC)
  | [], _ => some []
  | .mo (some n) _ :: r, .mo (some m) c :: e => if n = m then (finM r e).map (c :: ·) else none
  | .mo (some _) _ :: _, _ => none
  | _ :: r, _ :: e => finM r e
  | _ :: _, [] => none
theorem fin_ok {K : PySem.W.Frag} {k : Wk} {W : Wd} {G H H0 G' H' : Hp} : ∀ {n : Nat} {vs : List V} {as : List EV} {env : DEnv} {σ : L2.St} {cs : List SC}, ArgsL K k W.sh G H n vs as → finM as env = some cs → env.length = σ.length →
    (∀ (i : Nat) e s, env[i]? = some e → σ[i]? = some s → SlotOk K W H0 G' H' e s) → ∀ (j : Nat) l, W.sh[n + j]? = some l → ∃ c', cs[j]? = some c' ∧ ScOk K G' H' l c'
  | _, _, _, env, σ, cs, .nil, hf, hl, hs, j, l, hj => by
    rw [List.getElem?_eq_none (by omega)] at hj
    cases hj
  | n, _, _, env, σ, cs, .cons (a := a) h t, hf, hl, hs, j, l, hj => by
    cases env with
    | nil =>
      cases a with
      | mo w c => exact h.elim
      | un => cases hf
      | d x => cases hf
      | hd => cases hf
      | «at» i => cases hf
    | cons e env =>
      cases σ with
      | nil => cases hl
      | cons s σ =>
        have go : ∀ vs' as', finM as' env = some cs → ArgsL K k W.sh G H n vs' as' → ∃ c', cs[j]? = some c' ∧ ScOk K G' H' l c' := fun vs' as' hf' t' =>
          fin_ok t' hf' (by simpa using hl) (fun i e s h1 h2 => hs (i + 1) e s (by simpa using h1) (by simpa using h2)) j l hj
        cases a with
        | mo w c => exact h.elim
        | un => exact h.elim
        | d x => exact go _ _ (by simpa [finM] using hf) t
        | hd => exact go _ _ (by simpa [finM] using hf) t
        | «at» i => exact h.elim
  | n, _, _, env, σ, cs, .mo (l := l0) (c := c0) h1 h2 t, hf, hl, hs, j, l, hj => by
    cases env with
    | nil => cases hf
    | cons e env =>
      cases σ with
      | nil => cases hl
      | cons s σ =>
        cases e with
        | mo w c =>
          cases w with
          | none => cases hf
          | some m =>
            rw [finM] at hf
            by_cases z : n = m
            · rw [if_pos z] at hf
              subst z
              cases hr : finM _ env with
              | none =>
                rw [hr] at hf
                cases hf
              | some cs' =>
                rw [hr] at hf
                cases hf
                cases j with
                | zero =>
                  obtain ⟨l2, _, _, o2, q2⟩ := hs 0 _ s rfl rfl
                  have : l2 = l := by
                    have o2 : W.sh[n]? = some l2 := o2
                    rw [show n + 0 = n from rfl] at hj
                    rw [hj] at o2
                    cases o2
                    rfl
                  subst this
                  exact ⟨c, rfl, q2⟩
                | succ j =>
                  exact fin_ok t hr (by simpa using hl) (fun i e s h1 h2 => hs (i + 1) e s (by simpa using h1) (by simpa using h2)) j l (by rw [show n + 1 + j = n + (j + 1) by omega]; exact hj)
            · rw [if_neg z] at hf
              cases hf
        | un => cases hf
        | d x => cases hf
        | hd => cases hf
        | «at» i => cases hf
section
variable {P : Program} {w : World} {K : PySem.W.Frag} {mg : Str → Option Value} {base : Heap}
theorem okDM {x qual : Str} {st : Stmt} {f : Addr} {fd : FuncData} {N ps : List Str} {k n c : Nat} {sp : SpM} {ms : MS} (F : Fun K x qual st f fd) (S : FnScope N ps (defScope st)) (len : ∀ as Q, sp as Q → as.length = ps.length)
    (hbody : ∀ (cdv : Value) (A : Around) (fs : List Env) (s : Shared) (H : Hp) (E : XK), Rm k (A.deeper (envOfC qual (defScope st) s.heap.objs.size f cdv)) →
      GSs (cxOf CX0 P w K mg base N qual (defScope st) f cdv A fs s H E).nox (defBody st) n ms) (hn : n ≤ c)
    (hd : ∀ as Q, sp as Q → ms { nx := fun env => ∃ cs, finM as env = some cs ∧ Q .none cs, rt := fun x env => ∃ cs, finM as env = some cs ∧ Q x cs } (env0 N as)) : FnG P w K mg base CX0 (k + 1) f fd ps (spDM K c sp) := by
  refine Fun.okG F S (fun vs H Q E h => ?_) (fun cdv A fs s H vs Q E hr h => ?_)
  · obtain ⟨W, B, G, as, Pd, nd, r, a, h, _⟩ := h
    rw [argsL_len a]
    exact len as Pd h
  · obtain ⟨W, B, G, as, Pd, nd, r, a, h, q⟩ := h
    have fin : ∀ {B' : Nat} {env : DEnv} {σ : L2.St} {G' H' : Hp} {cs : List SC}, Rel K W B' G H G' env σ H' → finM as env = some cs → ∀ (j : Nat) l, W.sh[j]? = some l → ∃ c', cs[j]? = some c' ∧ ScOk K G' H' l c' := fun R hf j l hj =>
      fin_ok a hf R.len R.slot j l (by rw [Nat.zero_add]; exact hj)
    refine ⟨_, (hbody cdv A fs s H E hr).nox, W, B, G, H, G, env0 N as, _, rel_startM N nd (r.le (by omega)) a, hd as Pd h, ?_⟩
    exact ⟨fun e σ g H' ⟨cs, hf, p⟩ z R => q _ _ cs g H' p R.toRW (fin R hf) .non, fun x e σ v g H' ⟨cs, hf, p⟩ z R d => q x v cs g H' p R.toRW (fin R hf) d, fun _ _ _ _ p => p.elim, fun _ _ _ _ p => p.elim⟩
end
end DL
namespace DL
open PySem PySem.Spec PyProof.Rows L2
/-- slots and the addresses in them -/
inductive Lent (env : DEnv) (σ : L2.St) : List Nat → List Addr → Prop
  | nil : Lent env σ [] []
  | cons {i : Nat} {l : Addr} {is : List Nat} {ls : List Addr} : σ[i]? = some (some (.ref l)) → (∃ w c, env[i]? = some (.mo w c)) → Lent env σ is ls → Lent env σ (i :: is) (l :: ls)
section
variable {K : PySem.W.Frag} {W : Wd} {B : Nat} {G0 H0 G H G' H' : Hp} {env : DEnv} {σ : L2.St}
theorem Lent.mem : ∀ {is : List Nat} {ls : List Addr} {l : Addr}, Lent env σ is ls → l ∈ ls → ∃ i ∈ is, σ[i]? = some (some (.ref l)) ∧ ∃ w c, env[i]? = some (.mo w c)
  | _, _, _, .cons h1 h2 t, m => by
    rcases List.mem_cons.mp m with rfl | m
    · exact ⟨_, List.mem_cons_self, h1, h2⟩
    · obtain ⟨i, hi, q⟩ := t.mem m
      exact ⟨i, List.mem_cons_of_mem _ hi, q⟩
theorem Lent.nodup (R : Rel K W B G0 H0 G env σ H) : ∀ {is : List Nat} {ls : List Addr}, Lent env σ is ls → is.Nodup → ls.Nodup
  | _, _, .nil, _ => .nil
  | _, _, .cons (i := i) (l := l) h1 ⟨w, c, h2⟩ t, nd => by
    rw [List.nodup_cons] at nd ⊢
    refine ⟨fun m => ?_, t.nodup R nd.2⟩
    obtain ⟨i', hi', hs, w', c', he⟩ := t.mem m
    have ne : i ≠ i' := fun z => nd.1 (z ▸ hi')
    exact R.dis i i' _ _ _ _ l ne h2 he h1 hs
theorem Lent.set {i : Nat} {e : EV} : ∀ {is : List Nat} {ls : List Addr}, Lent env σ is ls → i ∉ is → Lent (env.set i e) σ is ls
  | _, _, .nil, _ => .nil
  | _, _, .cons (i := j) h1 ⟨w, c, h2⟩ t, n => by
    have ne : i ≠ j := fun z => n (by rw [z]; exact List.mem_cons_self)
    exact .cons h1 ⟨w, c, by rw [List.getElem?_set_ne ne]; exact h2⟩ (t.set fun z => n (List.mem_cons_of_mem _ z))
theorem putM_len : ∀ (is : List Nat) (cs : List SC) (env : DEnv), (putM env is cs).length = env.length
  | [], _, env => by rw [putM]; intro _ _ _ _ z; cases z
  | _ :: _, [], env => by rw [putM]; intro _ _ _ _ _ z; cases z
  | i :: is, c :: cs, env => by
    rw [putM]
    split
    · rw [putM_len is cs, List.length_set]
    · exact putM_len is cs env
theorem putM_get : ∀ {is : List Nat} {ls : List Addr} {env : DEnv} {cs : List SC}, Lent env σ is ls → is.Nodup → (∀ (j : Nat) l, ls[j]? = some l → ∃ c', cs[j]? = some c' ∧ ScOk K G' H' l c') → ∀ (i : Nat) e, (putM env is cs)[i]? = some e →
    (env[i]? = some e ∧ i ∉ is) ∨ ∃ w c c' l, env[i]? = some (.mo w c) ∧ e = .mo w c' ∧ σ[i]? = some (some (.ref l)) ∧ ScOk K G' H' l c'
  | _, _, env, cs, .nil, _, _, i, e, h => by
    rw [putM] at h
    · exact .inl ⟨h, by simp⟩
    · intro _ _ _ _ z
      cases z
  | _, _, env, cs, .cons (i := i0) (l := l0) (is := is) (ls := ls) h1 ⟨w, c, h2⟩ t, nd, hc, i, e, h => by
    obtain ⟨c0, e0, q0⟩ := hc 0 l0 rfl
    cases cs with
    | nil => cases e0
    | cons c1 cs =>
      cases e0
      rw [putM, h2] at h
      have h : (putM (env.set i0 (.mo w c0)) is cs)[i]? = some e := h
      rw [List.nodup_cons] at nd
      have hil : i0 < env.length := (List.getElem?_eq_some_iff.mp h2).1
      rcases putM_get (t.set nd.1) nd.2 (fun j l hj => hc (j + 1) l hj) i e h with ⟨g, n⟩ | ⟨w2, c2, c3, l2, g, ge, gs, gq⟩
      · by_cases z : i0 = i
        · subst z
          rw [List.getElem?_set_self hil] at g
          cases g
          exact .inr ⟨w, c, c0, l0, h2, rfl, h1, q0⟩
        · rw [List.getElem?_set_ne z] at g
          exact .inl ⟨g, fun m => (List.mem_cons.mp m).elim (fun y => z y.symm) n⟩
      · by_cases z : i0 = i
        · subst z
          rw [List.getElem?_set_self hil] at g
          cases g
          exact .inr ⟨w, c, c3, l2, h2, ge, gs, gq⟩
        · rw [List.getElem?_set_ne z] at g
          exact .inr ⟨w2, c2, c3, l2, g, ge, gs, gq⟩
theorem res_ok (R : Rel K W B G0 H0 G env σ H) : ∀ {n : Nat} {vs : List V} {as as' : List EV}, ArgsM K W.dk σ G vs as → resM as env n = some as' →
    ∃ ls, Lent env σ (atsM as) ls ∧ ∀ sh : List Addr, (∀ (j : Nat) l, ls[j]? = some l → sh[n + j]? = some l) → sh.length = n + ls.length → ArgsL K W.dk sh G H n vs as'
  | n, _, _, as', .nil, h => by
    rw [resM] at h
    cases h
    refine ⟨[], .nil, fun sh _ hl => ?_⟩
    have : n = sh.length := by simpa using hl.symm
    subst this
    exact .nil
  | n, _, _, as', .cons (a := a) ha t, h => by
    have go : ∀ {r r' : List EV} {us : List V}, resM r env n = some r' → (∃ ls, Lent env σ (atsM r) ls ∧ ∀ sh : List Addr, (∀ (j : Nat) l, ls[j]? = some l → sh[n + j]? = some l) → sh.length = n + ls.length → ArgsL K W.dk sh G H n us r') →
        ∀ {v}, ArgOk K W.dk G a v → ∃ ls, Lent env σ (atsM r) ls ∧ ∀ sh : List Addr, (∀ (j : Nat) l, ls[j]? = some l → sh[n + j]? = some l) → sh.length = n + ls.length → ArgsL K W.dk sh G H n (v :: us) (a :: r') := fun _ ⟨ls, h1, h2⟩ _ hv => ⟨ls, h1, fun sh q1 q2 => .cons hv (h2 sh q1 q2)⟩
    cases a with
    | un => exact ha.elim
    | mo _ _ => exact ha.elim
    | «at» _ => exact ha.elim
    | d x =>
      rw [resM, Option.map_eq_some_iff] at h
      · obtain ⟨r', hr, rfl⟩ := h
        exact go hr (res_ok R t hr) ha
      · intro _ z
        cases z
    | hd =>
      rw [resM, Option.map_eq_some_iff] at h
      · obtain ⟨r', hr, rfl⟩ := h
        exact go hr (res_ok R t hr) ha
      · intro _ z
        cases z
  | n, _, _, as', .at (i := i) hi t, h => by
    rw [resM] at h
    split at h
    · rename_i w c hw
      rw [Option.map_eq_some_iff] at h
      obtain ⟨r', hr, rfl⟩ := h
      obtain ⟨ls, h1, h2⟩ := res_ok R t hr
      obtain ⟨l, e1, g, o, q⟩ := R.get_mo hw
      rw [e1] at hi
      cases hi
      refine ⟨l :: ls, .cons e1 ⟨w, c, hw⟩ h1, fun sh q1 q2 => .mo (q1 0 l rfl) q (h2 sh (fun j l hj => ?_) ?_)⟩
      · rw [show n + 1 + j = n + (j + 1) by omega]
        exact q1 (j + 1) l hj
      · rw [q2, List.length_cons]
        omega
    · cases h
theorem callM_ok {cc : Nat} {sp : SpM} {E : XK} {n1 : Nat} {m1 : MA} {Q : VK} (h : tD K (n1 + cc) (mCallM sp m1) σ H Q) : tCall (spDM K cc sp) [] E (tB K n1 m1) σ H Q := by
  obtain ⟨W, B, G0, H0, G, env, P, R, hm, q⟩ := h
  refine ⟨W, B + cc, G0, H0, G, env, _, R.le (by omega), hm, fun as e1 vs G1 H1 p1 s1 R1 a1 => ?_⟩
  show spDM K cc sp (vs ++ []) H1 Q E
  rw [List.append_nil]
  obtain ⟨nd, as', hr, hsp⟩ := p1
  obtain ⟨ls, hL, hA⟩ := res_ok R1 a1 hr
  have own : ∀ l ∈ ls, G1 l = none ∧ (W.mu l ∨ H0 l = none) ∧ ¬ W.dk.mu l ∧ ∃ o, H1 l = some o := fun l m => by
    obtain ⟨i, _, hs, w, c, he⟩ := hL.mem m
    obtain ⟨l2, e2, g, o, qc⟩ := R1.get_mo he
    rw [hs] at e2
    cases e2
    refine ⟨g, ?_, R1.mo_ndk he hs, scok_some qc⟩
    cases w with
    | none => exact .inr o.1
    | some j => exact .inl (.inr (List.mem_of_getElem? o))
  refine ⟨⟨W.dk, ls⟩, B, G1, as', _, hL.nodup R1 nd, ?_, hA ls (fun j l hj => by rw [Nat.zero_add]; exact hj) (Nat.zero_add _).symm, hsp, fun x v cs G2 H2 p2 r2 hc d2 => ?_⟩
  · exact ⟨Same.refl _, R1.pub, fun a m => m.elim (fun m => R1.gm a (.inl m)) fun m => (own a m).1, ⟨R1.inv.1, fun a m => (own a m).2.2.1, fun a m => (own a m).2.2.2⟩, fun _ _ h _ => h, fun a o h h' => by rw [h] at h'; cases h'⟩
  · refine q x _ v G2 H2 p2 (s1.trans r2.g0) (R1.after' (W' := ⟨W.dk, ls⟩) rfl (fun a m => (own a m).2.1) r2 (putM_len _ _ _) fun i e he => ?_) d2
    rcases putM_get hL nd hc i e he with ⟨g, n⟩ | g
    · refine .inl ⟨g, fun w c l ew hs m => ?_⟩
      subst ew
      obtain ⟨i', hi', hs', w', c', he'⟩ := hL.mem m
      exact R1.dis i i' _ _ _ _ l (fun z => n (z ▸ hi')) g he' hs hs'
    · exact .inr g
end
structure CalM (P : Program) (w : World) (K : PySem.W.Frag) (mg : Str → Option Value) (base : Heap) (x : Str) (k : Nat) (ps : List Str) (c : Nat) (sp : SpM) : Prop where
  ex : ∃ f fd, FnG P w K mg base CX0 k f fd ps (spDM K c sp) ∧ mg x = some (.ref f) ∧ PySem.W.keepIn K (.ref f) = true ∧ Binds K fd ps []
section
variable {X : Cx} {k c : Nat} {ps : List Str} {sp : SpM} {x : Str} {p pos : Pos} {e : Expr} {es : List Expr} {m1 : MA} {n1 : Nat}
theorem ge_calM (C : CalM X.prog X.w X.K X.mg X.base x k ps c sp) (r : Rm k X.A) (hg : Gl X x)
    (ha : GB X (e :: es) n1 m1) (hdb : (x == ("__debug__" : Str)) = false := by decide) (he : starEach (e :: es) X.env = (false, eval e X.env) :: starEach es X.env := by rfl) (hpl : (backTo pos (starEach es X.env)).any (·.1) = false := by rfl) :
    GE X (.Call (.Name x p) (e :: es) [] pos) (n1 + c) (mCallM sp m1) := by
  obtain ⟨f, fd, F, hm, hk, hb⟩ := C.ex
  exact pe_imp (pe_callG F r hg hm hk hb .nil pass0 ha hdb he hpl) fun σ H Q h => callM_ok h
end
end DL
namespace DL
open PySem PySem.Spec PyProof.Rows L2
/-! ### in, for things of any shape in a list -/
def cInD : D → D → (Bool → Prop) → Prop
  | x, .list ys, P => (okEq x = true ∧ okEq (.list ys) = true) ∧ P (inD x ys)
  | _, _, _ => False
def cNotInD : D → D → (Bool → Prop) → Prop := fun x y P => cInD x y fun b => P (!b)
section
variable {X : Cx}
theorem okEq_dp {K : PySem.W.Frag} {G H : Hp} {v : V} {x : D} (s : Same G H) (h : okEq x = true) (d : Dr K G v x) : Dp K H v x ∧ SeqAt.shaped x = true := by
  unfold okEq at h
  rw [Bool.and_eq_true] at h
  exact ⟨dr_dp (dp_same s d) h.2, h.1⟩
theorem od_inD (hu : X.A.units + 65 < cLine) : OpR X (compareOp .In) (rDC2 X.K cInD) := by
  intro pins s σ H x y v u Q I rx ry h
  obtain ⟨G, dx, dy, P, sG, d1, d2, hf, q⟩ := h
  unfold cInD at hf
  split at hf
  · obtain ⟨a1, a2⟩ := okEq_dp sG hf.1.1 d1
    obtain ⟨b1, b2⟩ := okEq_dp sG hf.1.2 d2
    exact op_inD hu pins s σ H _ _ v u Q I rx ry ⟨_, _, a1, b1, a2, b2, q _ hf.2⟩
  · exact hf.elim
theorem od_notInD (hu : X.A.units + 65 < cLine) : OpR X (compareOp .NotIn) (rDC2 X.K cNotInD) := by
  intro pins s σ H x y v u Q I rx ry h
  obtain ⟨G, dx, dy, P, sG, d1, d2, hf, q⟩ := h
  unfold cNotInD cInD at hf
  split at hf
  · obtain ⟨a1, a2⟩ := okEq_dp sG hf.1.1 d1
    obtain ⟨b1, b2⟩ := okEq_dp sG hf.1.2 d2
    exact op_notInD hu pins s σ H _ _ v u Q I rx ry ⟨_, _, a1, b1, a2, b2, q _ hf.2⟩
  · exact hf.elim
end
end DL
namespace DL
open PySem PySem.Spec PyProof.Rows L2
/-! ### what all laws share -/
theorem ct_big {n : Nat} (h : n ≤ 2 ^ 64) : n ≤ ctMax := by
  have e : ctMax = 2 ^ 100000 := by unfold ctMax; rfl
  rw [e]
  exact Nat.le_trans h (Nat.pow_le_pow_right (by decide) (by decide))
def spLaw (K : PySem.W.Frag) : Sp := fun vs H Q _ => ∃ (a : Addr) (ns : List Int), vs = [.ref a] ∧ SqL K H a (ns.map V.int) ∧ ns.length ≤ 63 ∧ (∀ z ∈ ns, Builtin.Int.intBits z ≤ 1048576) ∧ ∀ H', Q (.bl true) H'
theorem rel_deck {K : PySem.W.Frag} {dk c a : Addr} {H : Hp} {n m : Nat} (inv : deckInv dk c ctMax H) (hn : n ≤ ctMax) : Rel K (.of (some (dk, c))) n (fun _ => none) (fun _ => none) (fun _ => none) (.un :: .hd :: List.replicate m .un) (some (.ref a) :: some (.ref dk) :: List.replicate m none) H where
  g0 := Same.refl _
  pub := fun _ _ h => (nomatch h)
  gm := fun _ _ => rfl
  inv := Wd.low (.of (some (dk, c))) ctMax n H hn (of_inv.mpr inv)
  fr := fun _ _ h => (nomatch h)
  pn := fun _ _ h => (nomatch h)
  len := by simp
  slot := fun i e s h1 h2 => by
    match i, h1, h2 with
    | 0, h1, h2 => cases h1; trivial
    | 1, h1, h2 =>
      cases h1
      cases h2
      exact ⟨rfl, fun z => (nomatch z)⟩
    | i + 2, h1, h2 =>
      obtain ⟨h3, h4⟩ := List.getElem?_eq_some_iff.mp (show (List.replicate m EV.un)[i]? = some e from h1)
      rw [List.getElem_replicate] at h4
      subst h4
      trivial
  dis := fun i j wi ci wj cj l ne h1 => by
    match i, h1 with
    | 0, h1 => cases h1
    | 1, h1 => cases h1
    | i + 2, h1 =>
      obtain ⟨h3, h4⟩ := List.getElem?_eq_some_iff.mp (show (List.replicate m EV.un)[i]? = some (.mo wi ci) from h1)
      rw [List.getElem_replicate] at h4
      cases h4
def gE1 : List EV → List EV → List EV := fun as bs => as ++ bs
/-- no object that is written -/
def NM (e : EV) : Prop := ∀ w c, e ≠ .mo w c
theorem nm_un : NM .un := fun w c z => by cases z
theorem nm_d {x : D} : NM (.d x) := fun w c z => by cases z
/-- an if that is passed by -/
theorem if_no {t : MT} {a rest : MS} {E : DEnds} {env : DEnv} (ht : ∀ Pc : Bool → DEnv → Prop, Pc false env → t env Pc) (h : rest E env) : sSeq (sIf t a sNext) rest E env := ht _ h
theorem if_no1 {t : MT} {a : MS} {E : DEnds} {env : DEnv} (ht : ∀ Pc : Bool → DEnv → Prop, Pc false env → t env Pc) (h : E.nx env) : sIf t a sNext E env := ht _ h
/-- of a truth -/
theorem dec_ite {p : Prop} [Decidable p] {A B : Prop} (h1 : p → A) (h2 : ¬ p → B) : match decide p with | true => A | false => B := by
  by_cases z : p
  · rw [decide_eq_true z]
    exact h1 z
  · rw [decide_eq_false z]
    exact h2 z
end DL
namespace DL
open PySem PySem.Spec PyProof.Rows L2
/-- a def as it stands behind the top -/
structure Df (K : PySem.W.Frag) (x : Str) (st : Stmt) : Prop where
  ex : ∃ f fd, PySem.W.nsIn K mainGlobals x = some (some (.ref f)) ∧ Fun K x x st f fd
theorem df_mk {K : PySem.W.Frag} {x : Str} {st : Stmt} {f : Addr} {oc : Value} {od an : Option Addr} {sl : Array (Option Value)} {kV doc pm cd ct : Value} (a : PySem.W.nsIn K mainGlobals x = some (some (.ref f)))
    (l : K.lookup f = some ⟨oc, od, .func (PySem.W.fnOf x x (defArgs st) (defBody st) (defScope st) .none kV doc pm an cd ct), sl⟩) (c : PySem.W.codeIn K cd x = true) (k : PySem.W.keepIn K (.ref f) = true) : Df K x st := ⟨f, _, a, fun_mk l c k⟩
section
variable {P : Program} {w : World} {K : PySem.W.Frag} {h : Heap} {mg : Str → Option Value} {base : Heap}
theorem cal_mk {x : Str} {st : Stmt} {k c : Nat} {ps : List Str} {sp : List EV → (D → Prop) → Prop} (X : K.In h) (G : h.Ns mainGlobals mg) (d : Df K x st)
    (hb : ∀ (kV doc pm : Value) (an : Option Addr) (cdv ct : Value) (us : List Value), us.length = ps.length → bindArgs (PySem.W.fnOf x x (defArgs st) (defBody st) (defScope st) .none kV doc pm an cdv ct) ⟨us, []⟩ = pure (ps.zip us))
    (hF : ∀ f fd, Fun K x x st f fd → FnG P w K mg base CX0 k f fd ps (spD K c sp)) : Cal P w K mg base x k ps c sp := by
  obtain ⟨f, fd, a, F⟩ := d.ex
  exact ⟨f, fd, hF f fd F, PySem.W.mg_of X G a, F.kp, F.binds hb⟩
theorem calK_mk {x : Str} {st : Stmt} {k c : Nat} {ps : List Str} {sp : List EV → (D → Prop) → Prop} (X : K.In h) (G : h.Ns mainGlobals mg) (d : Df K x st)
    (hb : ∀ (kV doc pm : Value) (an : Option Addr) (cdv ct : Value) (us : List Value), us.length = ps.length → bindArgs (PySem.W.fnOf x x (defArgs st) (defBody st) (defScope st) .none kV doc pm an cdv ct) ⟨[], ps.zip us⟩ = pure (ps.zip us))
    (hF : ∀ f fd, Fun K x x st f fd → FnG P w K mg base CX0 k f fd ps (spD K c sp)) : CalK P w K mg base x k ps c sp := by
  obtain ⟨f, fd, a, F⟩ := d.ex
  refine ⟨f, fd, hF f fd F, PySem.W.mg_of X G a, F.kp, ?_⟩
  obtain ⟨oc, od, kV, doc, pm, an, cdv, ct, osl, rfl, lk, hcd⟩ := F.ex
  exact fun s us hl => .of_eq (hb kV doc pm an cdv ct us hl)
/-- a constant of the module -/
theorem glob_atom {x : Str} {u : Value} {v : V} {y : D} (X : K.In h) (G : h.Ns mainGlobals mg) (a : PySem.W.nsIn K mainGlobals x = some (some u)) (r : RelV v u) (hd : ∀ G, Dr K G v y) : GlobD K mg x y := ⟨v, u, PySem.W.mg_of X G a, r, hd⟩
theorem glob_int {x : Str} {i : Int} {t : Tok} (X : K.In h) (G : h.Ns mainGlobals mg) (a : PySem.W.nsIn K mainGlobals x = some (some (.int i t))) : GlobD K mg x (.int i) := ⟨.int i, _, PySem.W.mg_of X G a, ⟨t, rfl⟩, fun _ => .int i⟩
theorem glob_str {x : Str} {z : Str} {t : Tok} (X : K.In h) (G : h.Ns mainGlobals mg) (a : PySem.W.nsIn K mainGlobals x = some (some (.str z t))) : GlobD K mg x (.str z) := ⟨.str z, _, PySem.W.mg_of X G a, ⟨t, rfl⟩, fun _ => .str z⟩
theorem glob_tup {x : Str} {a : Addr} {od : Option Addr} {its : List Value} {n : Nat} {sl : Array (Option Value)} {ys : List PyData} {vs : List V} (X : K.In h) (G : h.Ns mainGlobals mg) (e : PySem.W.nsIn K mainGlobals x = some (some (.ref a)))
    (l : K.lookup a = some ⟨.type "tuple", od, .seq its.toArray n, sl⟩) (hz : its.length ≤ sizeLine) (hv : Vals vs its) (hd : ∀ G, DrAll K G vs ys) : GlobD K mg x (.tuple ys) :=
  ⟨.ref a, .ref a, PySem.W.mg_of X G e, rfl, fun G => .tup (.inr ⟨_, its.toArray, n, l, rfl, rfl, by rw [List.size_toArray]; exact hz, by simpa using hv⟩) (hd G)⟩
/-- a def with one keyword-only default, as it stands behind the top -/
structure DfK (K : PySem.W.Frag) (x : Str) (st : Stmt) (nm : Str) (y : D) : Prop where
  ex : ∃ f fd v, PySem.W.nsIn K mainGlobals x = some (some (.ref f)) ∧ Fun K x x st f fd ∧ FunD K x x (defArgs st) (defBody st) (defScope st) [] [(nm, v)] f fd ∧ ∀ G, Dr K G v y
theorem dfk_mk {K : PySem.W.Frag} {x nm : Str} {st : Stmt} {f D T : Addr} {oc : Value} {od od2 an : Option Addr} {sl sl2 : Array (Option Value)} {doc pm cd ct : Value} {its : List Value} {n : Nat} {ys : List PyData} {vs : List V} (a : PySem.W.nsIn K mainGlobals x = some (some (.ref f)))
    (l : K.lookup f = some ⟨oc, od, .func (PySem.W.fnOf x x (defArgs st) (defBody st) (defScope st) .none (.ref D) doc pm an cd ct), sl⟩) (c : PySem.W.codeIn K cd x = true) (k : PySem.W.keepIn K (.ref f) = true)
    (e : PySem.W.nsIn K D nm = some (some (.ref T))) (l2 : K.lookup T = some ⟨.type "tuple", od2, .seq its.toArray n, sl2⟩) (hz : its.length ≤ sizeLine) (hv : Vals vs its) (hd : ∀ G, DrAll K G vs ys) : DfK K x st nm (.tuple ys) := by
  refine ⟨f, _, .ref T, a, fun_mk l c k, ⟨⟨oc, od, .none, .ref D, doc, pm, an, cd, ct, sl, rfl, l, c, .inl ⟨rfl, rfl⟩, .inr ⟨D, rfl, fun q hq => ?_⟩⟩, k⟩, fun G => .tup (.inr ⟨_, its.toArray, n, l2, rfl, rfl, by rw [List.size_toArray]; exact hz, by simpa using hv⟩) (hd G)⟩
  have : q = (nm, V.ref T) := by simpa using hq
  subst this
  exact ⟨_, e, rfl⟩
theorem args_app {W : Wk} {G : Hp} : ∀ {vs us : List V} {as bs : List EV}, ArgsOk K W G vs as → ArgsOk K W G us bs → ArgsOk K W G (vs ++ us) (as ++ bs)
  | _, _, _, _, .nil, h => h
  | _, _, _, _, .cons a t, h => .cons a (args_app t h)
theorem kn_d {st : Stmt} {k n : Nat} {y : D} {x : Str} {ps : List Str} {sp : List EV → (D → Prop) → Prop} (X : K.In h) (G : h.Ns mainGlobals mg) (d : DfK K x st "delays" y)
    (hb : ∀ (kV doc pm : Value) (an : Option Addr) (cdv ct : Value) (us ws : List Value), us.length = n → ws.length = 1 → bindArgs (PySem.W.fnOf x x (defArgs st) (defBody st) (defScope st) .none kV doc pm an cdv ct) ⟨us, (["delays"] : List Str).zip ws⟩ = pure (ps.zip (us ++ ws)))
    (hF : ∀ f fd, Fun K x x st f fd → FnG P w K mg base CX0 k f fd ps (spD K 0 sp)) : CalN P w K mg base x k n ["delays"] 0 gE1 sp := by
  obtain ⟨f, fd, v, a, F, FD, hv⟩ := d.ex
  obtain ⟨mv, kb⟩ := FD.kbinds0 (ps := ps) n ["delays"] [] (fun us _ ws => us ++ ws) (by simp) (fun q hq => by cases hq) (fun r1 _ r3 => r1.append r3) fun D doc pm an cdv ct us mv ws l1 l2 l3 => hb (.ref D) doc pm an cdv ct us ws l1 l3
  exact ⟨f, fd, _, _, _, hF f fd F, PySem.W.mg_of X G a, F.kp, kb, fun W G vs zs as bs h1 h2 _ _ => args_app h1 h2⟩
theorem fn_never {f : Addr} {fd : FuncData} {k c : Nat} {ps : List Str} {sp : List EV → (D → Prop) → Prop} (h : ∀ as P, ¬ sp as P) : FnG P w K mg base CX0 k f fd ps (spD K c sp) :=
  ⟨fun vs H Q E ⟨W, B, G, as, Pd, r, a, z, _⟩ => (h as Pd z).elim, fun A st s H args us vs Q E r z1 z2 z3 z4 => by
    obtain ⟨W, B, G, as, Pd, r, a, z, _⟩ := z4
    exact (h as Pd z).elim⟩
theorem fn_neverM {f : Addr} {fd : FuncData} {k c : Nat} {ps : List Str} {sp : SpM} (h : ∀ as P, ¬ sp as P) : FnG P w K mg base CX0 k f fd ps (spDM K c sp) :=
  ⟨fun vs H Q E ⟨W, B, G, as, Pd, nd, r, a, z, _⟩ => (h as Pd z).elim, fun A st s H args us vs Q E r z1 z2 z3 z4 => by
    obtain ⟨W, B, G, as, Pd, nd, r, a, z, _⟩ := z4
    exact (h as Pd z).elim⟩
theorem calM_mk {x : Str} {st : Stmt} {k c : Nat} {ps : List Str} {sp : SpM} (X : K.In h) (G : h.Ns mainGlobals mg) (d : Df K x st)
    (hb : ∀ (kV doc pm : Value) (an : Option Addr) (cdv ct : Value) (us : List Value), us.length = ps.length → bindArgs (PySem.W.fnOf x x (defArgs st) (defBody st) (defScope st) .none kV doc pm an cdv ct) ⟨us, []⟩ = pure (ps.zip us))
    (hF : ∀ f fd, Fun K x x st f fd → FnG P w K mg base CX0 k f fd ps (spDM K c sp)) : CalM P w K mg base x k ps c sp := by
  obtain ⟨f, fd, a, F⟩ := d.ex
  exact ⟨f, fd, hF f fd F, PySem.W.mg_of X G a, F.kp, F.binds hb⟩
end
end DL
namespace DL
open PySem PySem.Spec PyProof.Rows L2
/-! ### instances: fields -/
def putFD (f : Str) (y : D) : List (Str × D) → List (Str × D)
  | [] => [(f, y)]
  | (g, x) :: r => if g = f then (g, y) :: r else (g, x) :: putFD f y r
theorem drFs_get {K : PySem.W.Frag} {G : Hp} {f : Str} : ∀ {us : List (Str × V)} {fs : List (Str × D)} {y : D}, DrFs K G us fs → fs.lookup f = some y → ∃ v, us.lookup f = some v ∧ Dr K G v y
  | _, _, _, .nil, h => by cases h
  | _, _, y, .cons (k := k) (v := v) (vs := vs) (d := d) (ds := ds) a t, h => by
    rw [List.lookup_cons] at h ⊢
    cases hk : (f == k) with
    | true =>
      rw [hk] at h
      cases h
      exact ⟨v, rfl, a⟩
    | false =>
      rw [hk] at h
      exact drFs_get t h
theorem drFs_no {K : PySem.W.Frag} {G : Hp} {f : Str} : ∀ {us : List (Str × V)} {fs : List (Str × D)}, DrFs K G us fs → fs.lookup f = none → us.lookup f = none
  | _, _, .nil, _ => rfl
  | _, _, .cons (k := k) a t, h => by
    rw [List.lookup_cons] at h ⊢
    cases hk : (f == k) with
    | true =>
      rw [hk] at h
      cases h
    | false =>
      rw [hk] at h
      exact drFs_no t h
theorem drFs_len {α : Type} {K : PySem.W.Frag} {G : Hp} : ∀ {us : List (α × V)} {fs : List (α × D)}, DrFs K G us fs → us.length = fs.length
  | _, _, .nil => rfl
  | _, _, .cons _ t => congrArg (· + 1) (drFs_len t)
theorem drFs_put {K : PySem.W.Frag} {G : Hp} {f : Str} {v : V} {y : D} (a : Dr K G v y) : ∀ {us : List (Str × V)} {fs : List (Str × D)}, DrFs K G us fs → DrFs K G (putF f v us) (putFD f y fs)
  | _, _, .nil => .cons a .nil
  | _, _, .cons (k := k) b t => by
    rw [putF, putFD]
    by_cases h : k = f
    · rw [if_pos h, if_pos h]
      exact .cons a t
    · rw [if_neg h, if_neg h]
      exact .cons b (drFs_put a t)
def mFld (C : Addr) (i : Nat) (f : Str) : ME := fun env P => match env[i]? with
  | some (.mo _ (.ins C' fs)) => C' = C ∧ ∃ y, fs.lookup f = some y ∧ P y env
  | _ => False
def sFldM (C : Addr) (i : Nat) (f : Str) (m : ME) : MS := fun E env => m env fun y e1 => match e1[i]? with
  | some (.mo w (.ins C' fs)) => C' = C ∧ fs.length < 1000 ∧ E.nx (e1.set i (.mo w (.ins C' (putFD f y fs))))
  | _ => False
/-- of a number: x.f += e -/
def sFldI (C : Addr) (i : Nat) (f : Str) (m : ME) : MS := fun E env => match env[i]? with
  | some (.mo _ (.ins C' fs)) => C' = C ∧ ∃ a, fs.lookup f = some (.int a) ∧ m env fun y e1 => match e1[i]?, y with
    | some (.mo w (.ins C' fs')), .int b => C' = C ∧ fs'.length < 1000 ∧ E.nx (e1.set i (.mo w (.ins C' (putFD f (.int (a + b)) fs'))))
    | _, _ => False
  | _ => False
section
variable {X : Cx} {e : Expr} {C : Addr} {i : Nat} {x f : Str} {px p pos pos' tpos : Pos} {m : ME} {n : Nat}
theorem ge_fld (C : Addr) (i : Nat) {x f : Str} (c : Cls X.K C) (nf : NoAttr X.K C f) (hN : X.N[i]? = some x := by rfl) (hv : Vis X.env.scope x := by first | exact Or.inl rfl | exact Or.inr (Or.inl rfl) | exact Or.inr (Or.inr rfl)) (hd : (x == ("__debug__" : Str)) = false := by decide)
    (hcd : (x == ("__classdict__" : Str)) = false := by decide) (hb : attributeBase (.Name x px) f X.env (eval (.Name x px) X.env) = eval (.Name x px) X.env := by rfl) : GE X (.Attribute (.Name x px) f pos) 0 (mFld C i f) := pe_imp (pe_fld (pe_var hN hv hd hcd) hb) fun σ H Q h => by
  obtain ⟨W, B, G0, H0, G, env, P, R, hm, q⟩ := h
  unfold mFld at hm
  split at hm
  · obtain ⟨l, e1, _, _, dx, us, hl, hq⟩ := R.get_mo (by assumption)
    obtain ⟨rfl, y, hy, hP⟩ := hm
    obtain ⟨v, hv, dv⟩ := drFs_get hq hy
    exact ⟨_, e1, l, _, dx, us, v, rfl, hl, c, nf, hv, q _ _ _ _ _ hP (Same.refl _) R dv⟩
  · exact hm.elim
theorem gs_fldM (C : Addr) (i : Nat) {x f : Str} (c : Cls X.K C) (nf : NoAttr X.K C f) (he : GE X e n m) (hN : X.N[i]? = some x := by rfl) (hv : Vis X.env.scope x := by first | exact Or.inl rfl | exact Or.inr (Or.inl rfl) | exact Or.inr (Or.inr rfl)) (hd : (x == ("__debug__" : Str)) = false := by decide)
    (hcd : (x == ("__classdict__" : Str)) = false := by decide) (hs : swapsWith e (some (.Attribute (.Name x px) f pos')) pos.line X.env = pure false := by rfl) : GS X (.Assign [.Attribute (.Name x px) f pos'] e pos) n (sFldM C i f m) := ps_imp (ps_fld (pe_var hN hv hd hcd) he hs) fun D σ H h => by
  obtain ⟨W, B, G0, H0, G, env, E, R, hm, q⟩ := h
  refine ⟨W, B, G0, H0, G, env, _, R, hm, fun y e1 v G1 H1 p1 s1 R1 d1 => ?_⟩
  split at p1
  · rename_i w C' fs hx
    obtain ⟨l, f1, _, _, dx, us, hl, hq⟩ := R1.get_mo hx
    obtain ⟨rfl, hlen, hP⟩ := p1
    refine ⟨_, f1, l, _, dx, us, rfl, hl, c, nf, by rw [drFs_len hq]; exact hlen, ?_⟩
    exact q.nx _ _ _ _ hP s1 (R1.put hx f1 ⟨dx, _, upd_same, drFs_put d1 hq⟩)
  · exact p1.elim
theorem gs_fldI (C : Addr) (i : Nat) {x f : Str} (c : Cls X.K C) (nf : NoAttr X.K C f) (he : GE X e n m) (hN : X.N[i]? = some x := by rfl) (hv : Vis X.env.scope x := by first | exact Or.inl rfl | exact Or.inr (Or.inl rfl) | exact Or.inr (Or.inr rfl)) (hd : (x == ("__debug__" : Str)) = false := by decide)
    (hcd : (x == ("__classdict__" : Str)) = false := by decide) : GS X (.AugAssign (.Attribute (.Name x px) f tpos) .Add e pos) n (sFldI C i f m) := ps_imp (ps_fldaug (pe_var hN hv hd hcd) he in_add) fun D σ H h => by
  obtain ⟨W, B, G0, H0, G, env, E, R, hm, q⟩ := h
  unfold sFldI at hm
  split at hm
  · rename_i w C' fs hx
    obtain ⟨l, f1, _, _, dx, us, hl, hq⟩ := R.get_mo hx
    obtain ⟨rfl, a, ha, hm⟩ := hm
    obtain ⟨v, hv, dv⟩ := drFs_get hq ha
    cases dp_int dv
    refine ⟨_, f1, l, _, dx, us, _, rfl, hl, c, nf, hv, W, B, G0, H0, G, env, _, R, hm, fun y e1 u G1 H1 p1 s1 R1 d1 => ?_⟩
    split at p1
    · rename_i w2 C2 fs2 b hx2
      obtain ⟨l2, f2, _, _, dx2, us2, hl2, hq2⟩ := R1.get_mo hx2
      rw [f1] at f2
      cases f2
      cases dp_int d1
      obtain ⟨rfl, hlen, hP⟩ := p1
      refine ⟨a, b, rfl, rfl, dx2, us2, hl2, by rw [drFs_len hq2]; exact hlen, ?_⟩
      exact q.nx _ _ _ _ hP s1 (R1.put hx2 f1 ⟨dx2, _, upd_same, drFs_put (.int _) hq2⟩)
    · exact p1.elim
  · exact hm.elim
end
end DL
namespace DL
open PySem PySem.Spec PyProof.Rows L2
/-! ### instances: methods -/
structure MthM (P : Program) (w : World) (K : PySem.W.Frag) (mg : Str → Option Value) (base : Heap) (C : Addr) (m : Str) (k : Nat) (ps : List Str) (c : Nat) (sp : SpM) : Prop where
  ex : ∃ f fd, FnG P w K mg base CX0 k f fd ps (spDM K c sp) ∧ Meth K C m f ∧ Binds K fd ps []
/-- x.m(..), x an instance that is written -/
def mMeth (C : Addr) (m : Str) (sp : SpM) (i : Nat) (a : MA) : ME := fun env P => match env[i]? with
  | some (.mo _ (.ins C' fs)) => C' = C ∧ fs.lookup m = none ∧ mCallM sp (mConsM i a) env P
  | _ => False
section
variable {X : Cx} {C : Addr} {m : Str} {k c : Nat} {ps : List Str} {sp : SpM} {x : Str} {px apos pos : Pos} {e o : Expr} {es : List Expr} {m1 : MA} {n1 : Nat} {ta : TE} {t : TA} {spv : Sp} {f : Addr} {fd : FuncData}
theorem pe_methG {pl : Sem Bool} (he : PE X o ta) (cl : Cls X.K C) (hm : Meth X.K C m f) (F : FnG X.prog X.w X.K X.mg X.base CX0 k f fd ps spv) (r : Rm k X.A) (hb : Binds X.K fd ps []) (ha : PA X (e :: es) t)
    (hst : starEach (e :: es) X.env = (false, eval e X.env) :: starEach es X.env := by rfl) (hpl : (backTo pos (starEach es X.env)).any (·.1) = false := by rfl)
    (ht : eval (.Call (.Attribute o m apos) (e :: es) [] pos) X.env = (do
      let ov ← eval o X.env
      standAt apos.atName
      let (f, first) ← holding [ov] (getMethod ov m pl)
      callWith pos f first (backTo pos (starEach (e :: es) X.env)) (backToKw pos (keywordEach [] X.env))) := by rfl) :
    PE X (.Call (.Attribute o m apos) (e :: es) [] pos) (tMeth C m spv [] E0 ta t) := by
  refine ⟨fun pins s σ H Q I h => ?_⟩
  refine PySem.W.methodCall_KW (pl := pl) (thn (he.run pins s σ H _ I h) fun u s1 ⟨x, H1, I1, rx, a, dx, fs, ex, ea, l, q⟩ => ?_) ht
  subst ex
  obtain rfl : u = Value.ref a := rx
  refine getmeth_ok I1 ea cl hm l ?_
  refine PySem.W.callWith_K (first := [.ref a]) (h₀ := X.base) I.ok.mod.kin hm.kp (thn (ha.run pos pins s1 σ H1 _ I1 q) fun us s2 ⟨vs, H2, I2, rr, q2⟩ => ⟨I2.kIn, ?_⟩) hst hpl
  exact runG (us := .ref a :: us) (vs := .ref a :: vs) F r hb .nil pass0 I2 (.cons rfl rr) q2
theorem pe_meth0G {pl : Sem Bool} (he : PE X o ta) (cl : Cls X.K C) (hm : Meth X.K C m f) (F : FnG X.prog X.w X.K X.mg X.base CX0 k f fd ps spv) (r : Rm k X.A) (hb : Binds X.K fd ps [])
    (ht : eval (.Call (.Attribute o m apos) [] [] pos) X.env = (do
      let ov ← eval o X.env
      standAt apos.atName
      let (f, first) ← holding [ov] (getMethod ov m pl)
      callWith pos f first (backTo pos (starEach [] X.env)) (backToKw pos (keywordEach [] X.env))) := by rfl) :
    PE X (.Call (.Attribute o m apos) [] [] pos) (tMeth C m spv [] E0 ta tNil) := by
  refine ⟨fun pins s σ H Q I h => ?_⟩
  refine PySem.W.methodCall_KW (pl := pl) (thn (he.run pins s σ H _ I h) fun u s1 ⟨x, H1, I1, rx, a, dx, fs, ex, ea, l, q⟩ => ?_) ht
  subst ex
  obtain rfl : u = Value.ref a := rx
  refine getmeth_ok I1 ea cl hm l ?_
  exact PySem.W.callWith_K0 (first := [.ref a]) I1.kIn hm.kp (runG (us := [.ref a]) (vs := [.ref a]) F r hb .nil pass0 I1 (.cons rfl .nil) q)
/-- the receiver and the arguments, from the data -/
theorem meth_ok {i : Nat} {cc : Nat} {σ : L2.St} {H : Hp} {Q : VK} {E : XK} (h : tD X.K (n1 + cc) (mMeth C m sp i m1) σ H Q) : tMeth C m (spDM X.K cc sp) [] E (tVar i) (tB X.K n1 m1) σ H Q := by
  obtain ⟨W, B, G0, H0, G, env, P, R, hm, q⟩ := h
  unfold mMeth at hm
  split at hm
  · rename_i w C' fs hx
    obtain ⟨rfl, hno, hm⟩ := hm
    obtain ⟨l, e1, hg, ho, dx, us, hl, hq⟩ := R.get_mo hx
    refine ⟨_, e1, l, dx, us, rfl, hl, drFs_no hq hno, ?_⟩
    have h2 : tD X.K (n1 + cc) (mCallM sp (mConsM i m1)) σ H Q := ⟨W, B, G0, H0, G, env, P, R, hm, q⟩
    have h3 := callM_ok (E := E) h2
    obtain ⟨W', B', G0', H0', G', env', P', R', hm', q'⟩ := h3
    unfold mConsM at hm'
    split at hm'
    · rename_i w2 c2 hx2
      obtain ⟨l2, e2, _⟩ := R'.get_mo hx2
      rw [e1] at e2
      cases e2
      refine ⟨W', B', G0', H0', G', env', _, R', hm', fun as env2 vs G2 H2 p2 s2 R2 a2 => ?_⟩
      exact q' _ env2 (.ref l :: vs) G2 H2 p2 s2 R2 (.at e1 a2)
    · exact hm'.elim
  · exact hm.elim
theorem ge_mth (i : Nat) {x : Str} {pl : Sem Bool} (M : MthM X.prog X.w X.K X.mg X.base C m k ps c sp) (cl : Cls X.K C) (r : Rm k X.A) (ha : GB X (e :: es) n1 m1) (hN : X.N[i]? = some x := by rfl) (hv : Vis X.env.scope x := by first | exact Or.inl rfl | exact Or.inr (Or.inl rfl) | exact Or.inr (Or.inr rfl)) (hd : (x == ("__debug__" : Str)) = false := by decide)
    (hcd : (x == ("__classdict__" : Str)) = false := by decide) (hst : starEach (e :: es) X.env = (false, eval e X.env) :: starEach es X.env := by rfl) (hpl : (backTo pos (starEach es X.env)).any (·.1) = false := by rfl)
    (ht : eval (.Call (.Attribute (.Name x px) m apos) (e :: es) [] pos) X.env = (do
      let ov ← eval (.Name x px) X.env
      standAt apos.atName
      let (f, first) ← holding [ov] (getMethod ov m pl)
      callWith pos f first (backTo pos (starEach (e :: es) X.env)) (backToKw pos (keywordEach [] X.env))) := by rfl) :
    GE X (.Call (.Attribute (.Name x px) m apos) (e :: es) [] pos) (n1 + c) (mMeth C m sp i m1) := by
  obtain ⟨f, fd, F, hm, hb⟩ := M.ex
  exact pe_imp (pe_methG (pl := pl) (pe_var hN hv hd hcd) cl hm F r hb ha hst hpl ht) fun σ H Q h => meth_ok h
theorem ge_mth0 (i : Nat) {x : Str} {pl : Sem Bool} (M : MthM X.prog X.w X.K X.mg X.base C m k ps c sp) (cl : Cls X.K C) (r : Rm k X.A) (hN : X.N[i]? = some x := by rfl) (hv : Vis X.env.scope x := by first | exact Or.inl rfl | exact Or.inr (Or.inl rfl) | exact Or.inr (Or.inr rfl)) (hd : (x == ("__debug__" : Str)) = false := by decide)
    (hcd : (x == ("__classdict__" : Str)) = false := by decide)
    (ht : eval (.Call (.Attribute (.Name x px) m apos) [] [] pos) X.env = (do
      let ov ← eval (.Name x px) X.env
      standAt apos.atName
      let (f, first) ← holding [ov] (getMethod ov m pl)
      callWith pos f first (backTo pos (starEach [] X.env)) (backToKw pos (keywordEach [] X.env))) := by rfl) :
    GE X (.Call (.Attribute (.Name x px) m apos) [] [] pos) c (mMeth C m sp i mNil) := by
  obtain ⟨f, fd, F, hm, hb⟩ := M.ex
  refine pe_imp (pe_meth0G (pl := pl) (pe_var hN hv hd hcd) cl hm F r hb ht) fun σ H Q h => ?_
  have h2 : tD X.K (0 + c) (mMeth C m sp i mNil) σ H Q := by rw [Nat.zero_add]; exact h
  obtain ⟨v, e1, a, dx, fs, ex, hl, hno, q⟩ := meth_ok (E := E0) h2
  refine ⟨v, e1, a, dx, fs, ex, hl, hno, ?_⟩
  obtain ⟨W', B', G0', H0', G', env', P', R', hm', q'⟩ := q
  exact q' _ _ _ _ _ hm' (Same.refl _) R' .nil
end
end DL
namespace DL
open PySem PySem.Spec PyProof.Rows L2
/-! ### a comprehension whose turns write objects -/
/-- the slots vs from env, the others from e -/
def mergeE (env e : DEnv) : List Nat → DEnv
  | [] => e
  | v :: vs => match env[v]? with
    | some x => (mergeE env e vs).set v x
    | none => mergeE env e vs
theorem mergeE_len (env e : DEnv) : ∀ vs, (mergeE env e vs).length = e.length
  | [] => rfl
  | v :: vs => by
    rw [mergeE]
    split
    · rw [List.length_set, mergeE_len env e vs]
    · exact mergeE_len env e vs
theorem mergeE_out {env e : DEnv} {i : Nat} : ∀ {vs : List Nat}, i ∉ vs → (mergeE env e vs)[i]? = e[i]?
  | [], _ => rfl
  | v :: vs, h => by
    have ih := mergeE_out (env := env) (e := e) (i := i) (vs := vs) fun z => h (List.mem_cons_of_mem _ z)
    rw [mergeE]
    split
    · rw [List.getElem?_set_ne fun z => h (by rw [z]; exact List.mem_cons_self)]
      exact ih
    · exact ih
theorem mergeE_in {env e : DEnv} (hl : env.length = e.length) {i : Nat} : ∀ {vs : List Nat}, i ∈ vs → (mergeE env e vs)[i]? = env[i]?
  | v :: vs, h => by
    rw [mergeE]
    by_cases z : v = i
    · subst z
      split
      · rename_i x hx
        have := (List.getElem?_eq_some_iff.mp hx).1
        rw [List.getElem?_set_self (by rw [mergeE_len]; omega), hx]
      · rename_i hx
        rw [hx, List.getElem?_eq_none_iff, mergeE_len, ← hl]
        exact List.getElem?_eq_none_iff.mp hx
    · have hm : i ∈ vs := (List.mem_cons.mp h).resolve_left fun y => z y.symm
      have ih := mergeE_in (env := env) (e := e) hl hm
      split
      · rw [List.getElem?_set_ne z]
        exact ih
      · exact ih
section
variable {K : PySem.W.Frag} {W : Wd} {B B' : Nat} {G0 H0 G H G' H' : Hp} {env e : DEnv} {σ : L2.St}
theorem Rel.merge {vs : List Nat} (r : Rel K W B G0 H0 G env σ H) (n : noOwn env vs) (s : Same G G') (q : Rel K W B' G0 H0 G' (wipeE e vs) (L2.wipe σ vs) H') (hl : e.length = env.length) : Rel K W B' G0 H0 G' (mergeE env e vs) σ H' :=
  { q.toRW with
    len := by rw [mergeE_len, hl]; exact r.len
    slot := fun i x s' h1 h2 => by
      by_cases z : i ∈ vs
      · rw [mergeE_in hl.symm z] at h1
        have h := r.slot i x s' h1 h2
        cases x with
        | un => trivial
        | d x =>
          obtain ⟨v, e1, q1⟩ := h
          exact ⟨v, e1, dp_same s q1⟩
        | mo w c => exact absurd h1 (n i z w c)
        | «at» _ => trivial
        | hd => exact h
      · rw [mergeE_out z] at h1
        exact q.slot i x s' (by rw [wipeE_out z]; exact h1) (by rw [wipe_out' z]; exact h2)
    dis := fun i j wi ci wj cj l ne h1 h2 h3 h4 => by
      have f : ∀ {k : Nat} {w c}, (mergeE env e vs)[k]? = some (.mo w c) → k ∉ vs ∧ e[k]? = some (.mo w c) := fun {k w c} h => by
        by_cases z : k ∈ vs
        · rw [mergeE_in hl.symm z] at h
          exact absurd h (n k z w c)
        · rw [mergeE_out z] at h
          exact ⟨z, h⟩
      obtain ⟨z1, g1⟩ := f h1
      obtain ⟨z2, g2⟩ := f h2
      exact q.dis i j wi ci wj cj l ne (by rw [wipeE_out z1]; exact g1) (by rw [wipeE_out z2]; exact g2) (by rw [wipe_out' z1]; exact h3) (by rw [wipe_out' z2]; exact h4) }
end
theorem wipe_idem (σ : L2.St) (vs : List Nat) : wipe (wipe σ vs) vs = wipe σ vs := by
  apply List.ext_getElem?
  intro n
  by_cases hn : n ∈ vs
  · cases z1 : (wipe (wipe σ vs) vs)[n]? with
    | none =>
      rw [List.getElem?_eq_none_iff, wipe_length] at z1
      exact (List.getElem?_eq_none_iff.mpr z1).symm
    | some y =>
      have b1 := (List.getElem?_eq_some_iff.mp z1).1
      rw [wipe_length] at b1
      rw [List.getElem?_eq_getElem b1]
      cases y with
      | some u => exact absurd hn (wipe_some z1).2
      | none =>
        cases z2 : (wipe σ vs)[n] with
        | none => rfl
        | some u => exact absurd hn (wipe_some ((List.getElem?_eq_getElem b1).trans (congrArg some z2))).2
  · rw [wipe_out' hn]
def mLcS (g : MG) (tt : MT) (te : ME) (vs : List Nat) : List D → List D → DEnv → (List D → DEnv → Prop) → Prop
  | [], acc, env, P => P acc env
  | x :: xs, acc, env, P => g x (wipeE env vs) fun e1 => tt e1 fun b e2 => match b with
    | true => te e2 fun y e3 => acc.length < sizeLine ∧ mLcS g tt te vs xs (acc ++ [y]) (mergeE env e3 vs) P
    | false => mLcS g tt te vs xs acc (mergeE env e2 vs) P
def mLcSC (nb c : Nat) (i : MI) (g : MG) (tt : MT) (te : ME) (vs : List Nat) : MF := fun env P => i env fun ds e1 => ds.length * nb ≤ c ∧ noOwn e1 vs ∧ mLcS g tt te vs ds [] e1 P
theorem lcS_ok {K : PySem.W.Frag} {mi : MI} {mg : MG} {mt : MT} {me : ME} {vs : List Nat} {ni nt ne c : Nat} {σ : L2.St} {H : Hp} {Q : VK} (h : tF K (ni + c) (mLcSC (nt + ne) c mi mg mt me vs) σ H Q) : tLc (tI K ni mi) (tG K vs mg) (tDT K nt mt) (tD K ne me) vs σ H Q := by
  obtain ⟨W, B, G0, H0, G, env, P, R, hm, q⟩ := h
  refine ⟨W, B + c, G0, H0, G, env, _, R.le (by omega), hm, fun ds e1 J G1 H1 p1 s1 R1 it A hA => ?_⟩
  obtain ⟨cost, no, p1⟩ := p1
  obtain ⟨R2, f1, f2, f3, f4⟩ := R1.fresh (o := .lst []) hA
  let Iv : Nat → Hp → Prop := fun i H' => ∃ G' av acc e', Same G1 G' ∧ Rel K W (B + (ds.length - i) * (nt + ne)) G0 H0 G' e' σ H' ∧ noOwn e' vs ∧ H' A = some (.lst av) ∧ G' A = none ∧ (∀ (i : Nat) l w c, e'[i]? = some (.mo w c) → σ[i]? = some (some (.ref l)) → l ≠ A) ∧ DrAll K G' av acc ∧ mLcS mg mt me vs (ds.drop i) acc e' P
  refine ⟨fun i m H' => m = ds.length - i ∧ i ≤ ds.length ∧ Iv i H', ⟨ds.length, rfl, Nat.zero_le _, G1, [], [], e1, Same.refl _, R2.le (by rw [Nat.sub_zero]; omega), no, upd_same, f1, f4, .nil, p1⟩, ?_⟩
  rintro i m H' ⟨rfl, hi, G', av, acc, e', s', R', no', hA', gA', oA', dA', p'⟩
  by_cases hlt : i < ds.length
  · have hx : ds[i]? = some ds[i] := List.getElem?_eq_getElem hlt
    have hd : ds.drop i = ds[i] :: ds.drop (i + 1) := List.drop_eq_getElem_cons hlt
    obtain ⟨hgo, hy⟩ := (it G' H' s' R'.pub i).1 _ hx
    rw [hd] at p'
    rw [turn_cost hlt] at R'
    refine .inr ⟨hgo, fun H2 => Iv (i + 1) H2, fun H2 hN => ⟨ds.length - (i + 1), by omega, rfl, hlt, hN⟩, fun v H2 y => ?_⟩
    obtain ⟨G2, g2, d2⟩ := hy v H2 y
    have R3 := R'.grow g2
    have hA2 : H2 A = some (.lst av) := g2.eh _ _ hA'
    have gA2 : G2 A = none := by
      cases z : G2 A with
      | none => rfl
      | some o =>
        have := g2.new A o z gA'
        rw [hA'] at this
        cases this
    have hg0 : G0 A = none := R3.g0.free gA2
    have R4 := (R3.guard hA2 gA2 oA').wipe vs
    refine ⟨W, _, G0, upd H0 A (.lst av), G2, _, _, _, R4, d2, p', fun e3 σ3 G3 H3 p3 s3 R5 w1 w2 => ⟨by rw [w1, wipe_idem], ?_⟩⟩
    have g3 : Same G' G3 := g2.eg.trans s3
    refine ⟨W, B + (ds.length - (i + 1)) * (nt + ne) + ne, G0, upd H0 A (.lst av), G3, e3, _, R5.le (by omega), p3, fun b e4 G4 H4 p4 s4 R6 => ?_⟩
    have sT : Same G1 G4 := (s'.trans g3).trans s4
    have back : ∀ (B5 : Nat) (G5 H5 : Hp) (e5 : DEnv), Same G3 G5 → Rel K W B5 G0 (upd H0 A (.lst av)) G5 e5 σ3 H5 → Rel K W B5 G0 H0 G5 (mergeE e' e5 vs) σ H5 ∧ noOwn (mergeE e' e5 vs) vs ∧ H5 A = some (.lst av) ∧ G5 A = none ∧ (∀ (i : Nat) l w c, (mergeE e' e5 vs)[i]? = some (.mo w c) → σ[i]? = some (some (.ref l)) → l ≠ A) := fun B5 G5 H5 e5 s5 R7 => by
      have l5 : e5.length = e'.length := by
        have a1 := R7.len
        have a2 := R5.len
        have a3 := R3.len
        have a4 : σ3.length = σ.length := by
          have := congrArg List.length w1
          rw [wipe_length, wipe_length, wipe_length] at this
          exact this
        omega
      have R8 := R7.wipe vs
      rw [w1, wipe_idem] at R8
      obtain ⟨R9, u1, u2, u3⟩ := R8.unguard f3 hg0 f2
      have no5 : noOwn (mergeE e' e5 vs) vs := fun j hj w c z => by
        rw [mergeE_in l5.symm hj] at z
        exact no' j hj w c z
      refine ⟨R3.merge no' (s3.trans s5) R9 l5, no5, u1, u2, fun j l w c h1 h2 => ?_⟩
      by_cases z : j ∈ vs
      · exact absurd h1 (no5 j z w c)
      · rw [mergeE_out z] at h1
        exact u3 j l w c (by rw [wipeE_out z]; exact h1) (by rw [wipe_out' z]; exact h2)
    cases b with
    | true =>
      refine iteT ⟨W, B + (ds.length - (i + 1)) * (nt + ne), G0, upd H0 A (.lst av), G4, e4, _, R6, p4, fun y e5 u G5 H5 p5 s5 R7 d5 => ?_⟩
      obtain ⟨hl, p5⟩ := p5
      obtain ⟨Rb, nb, b1, b2, b3⟩ := back _ G5 H5 e5 (s4.trans s5) R7
      refine ⟨av, b1, by rw [dpAll_len dA']; exact hl, G5, av ++ [u], acc ++ [y], mergeE e' e5 vs, sT.trans s5, ?_, nb, upd_same, b2, b3, dpAll_app (dpAll_same ((g3.trans s4).trans s5) dA') (dpAll_one d5), p5⟩
      refine { g0 := Rb.g0, pub := fun a o e => ?_, gm := Rb.gm, inv := W.loc _ H5 _ (fun a m => ?_) Rb.inv, fr := fun a o e m => ?_, pn := Rb.pn, len := Rb.len, slot := fun j e s h1 h2 => ?_, dis := Rb.dis }
      · have ne : a ≠ A := fun z => by
          subst z
          rw [b2] at e
          cases e
        rw [upd_ne ne]
        exact Rb.pub a o e
      · rw [upd_ne fun z => by subst z; exact f3 m]
      · have ne : a ≠ A := fun z => by
          subst z
          rw [f2] at e
          cases e
        rw [upd_ne ne]
        exact Rb.fr a o e m
      · have q := Rb.slot j e s h1 h2
        cases e with
        | mo w2 c2 =>
          obtain ⟨l2, ee, n2, o2, q1⟩ := q
          refine ⟨l2, ee, n2, o2, scok_later (Same.refl _) (fun u hu => ?_) q1⟩
          subst ee
          rw [upd_ne (b3 j l2 w2 c2 h1 h2)]
          exact hu
        | un => trivial
        | d x => exact q
        | hd => exact q
        | «at» _ => trivial
    | false =>
      obtain ⟨Rb, nb, b1, b2, b3⟩ := back _ G4 H4 e4 s4 (R6.le (Nat.le_add_right _ _))
      exact iteF ⟨G4, av, acc, mergeE e' e4 vs, sT, Rb, nb, b1, b2, b3, dpAll_same (g3.trans s4) dA', p4⟩
  · have e : i = ds.length := by omega
    subst e
    rw [List.drop_length] at p'
    exact .inl ⟨(it G' H' s' R'.pub _).2 (Nat.le_refl _), q _ e' A G' H' p' (s1.trans s') (R'.le (by omega)) ⟨av, hA', gA', f2, f3, oA', dA'⟩⟩
section
variable {X : Cx} {elt tg iter : Expr} {ifs : List Expr} {scope : Scope} {own : List (Str × Nat)} {pos spos py : Pos} {mi : MI} {mg : MG} {mt : MT} {me : ME} {ni nt ne : Nat}
theorem gf_lcS (c : Nat) (hc : X.calm = true) (hN : X.N.Nodup) (hi : GI X tg iter ni mi) (ok : BlkOk X.N X.env.scope scope own)
    (hg : ∀ (s : Shared) (H : Hp) (C : Addr) (cl : List (Str × Addr)) (fp : List Addr), GG (X.blk s H scope (compEnvC scope cl C X.env) fp) tg (own.map (·.2)) mg) (ht : ∀ (s : Shared) (H : Hp) (C : Addr) (cl : List (Str × Addr)) (fp : List Addr), GTs (X.blk s H scope (compEnvC scope cl C X.env) fp) ifs nt mt)
    (he : ∀ (s : Shared) (H : Hp) (C : Addr) (cl : List (Str × Addr)) (fp : List Addr), GE (X.blk s H scope (compEnvC scope cl C X.env) fp) elt ne me) (hs : ∀ x, foldedSetIterable iter X.env x = pure x := by intro _; rfl) :
    GF X (.ListComp elt [⟨tg, iter, ifs, 0⟩] scope pos) (ni + c) (mLcSC (nt + ne) c mi mg mt me (own.map (·.2))) := pe_imp (pe_lc hc hN hi ok hg ht he hs) fun σ H Q h => lcS_ok h
theorem gs_setLcS (c : Nat) {i : Nat} {y : Str} (hc : X.calm = true) (hN : X.N.Nodup) (hy : X.N[i]? = some y) (hyl : X.env.scope.names.lookup y = some .local)
    (hsw : swapsWith (.ListComp elt [⟨tg, iter, ifs, 0⟩] scope pos) (some (.Name y py)) spos.line X.env = pure true) (hi : GI X tg iter ni mi) (ok : BlkOk X.N X.env.scope scope own)
    (hg : ∀ (s : Shared) (H : Hp) (C : Addr) (cl : List (Str × Addr)) (fp : List Addr), GG (X.blk s H scope (compEnvC scope cl C X.env) fp) tg (own.map (·.2)) mg) (ht : ∀ (s : Shared) (H : Hp) (C : Addr) (cl : List (Str × Addr)) (fp : List Addr), GTs (X.blk s H scope (compEnvC scope cl C X.env) fp) ifs nt mt)
    (he : ∀ (s : Shared) (H : Hp) (C : Addr) (cl : List (Str × Addr)) (fp : List Addr), GE (X.blk s H scope (compEnvC scope cl C X.env) fp) elt ne me) (hs : ∀ x, foldedSetIterable iter X.env x = pure x := by intro _; rfl) :
    GS X (.Assign [.Name y py] (.ListComp elt [⟨tg, iter, ifs, 0⟩] scope pos) spos) (ni + c) (sSetF i (mLcSC (nt + ne) c mi mg mt me (own.map (·.2)))) := ps_imp (ps_setLc hc hN hy hyl hsw hi ok hg ht he hs) fun D σ H h => by
  obtain ⟨W, B, G0, H0, G, env, E, R, hm, q⟩ := h
  refine lcS_ok ⟨W, B, G0, H0, G, env, _, R, hm, fun xs e1 p G1 H1 p1 s1 R1 d1 => ?_⟩
  exact q.nx _ _ _ _ p1 s1 (R1.set_own d1)
end
end DL
namespace DL
open PySem PySem.Spec PyProof.Rows L2
/-! ### instances made -/
theorem make_guards {A : Around} {C : Addr} {us : List Value} {kw : List (Str × Value)} : (A.under (.builtin "type.__call__" ⟨.ref C :: us, kw⟩)).guards = A.guards := by
  first | rfl | simp [Around.under, Code.weight, Code.isCreation, Code.isGuard, Code.isCaller, Code.frames, Code.isFrame, guardIds]
theorem Rm.make {k : Nat} {A : Around} (r : Rm (k + 1) A) (C : Addr) (us : List Value) (kw : List (Str × Value)) : Rm k (A.under (.builtin "type.__call__" ⟨.ref C :: us, kw⟩)) := ⟨r.rm.make C us kw, by rw [make_guards]; exact r.gd⟩
structure MkM (P : Program) (w : World) (K : PySem.W.Frag) (mg : Str → Option Value) (base : Heap) (x : Str) (C : Addr) (k : Nat) (ps : List Str) (c : Nat) (sp : SpM) : Prop where
  ex : ∃ f fd, FnG P w K mg base CX0 k f fd ps (spDM K c sp) ∧ Mk K C f ∧ Binds K fd ps [] ∧ mg x = some (.ref C)
section
variable {X : Cx} {C : Addr} {k : Nat} {ps : List Str} {x : Str} {p pos : Pos} {e : Expr} {es : List Expr} {t : TA} {spv : Sp} {f : Addr} {fd : FuncData}
theorem run_makeG {pins : List (Addr × Obj)} {σ : L2.St} {H : Hp} {s : Shared} {Q : VK} {us : List Value} {vs : List V} (M : Mk X.K C f) (F : FnG X.prog X.w X.K X.mg X.base CX0 k f fd ps spv) (hr : Rm (k + 1) X.A) {ds : List Value} {dvs : List V} (hb : Binds X.K fd ps ds) (hd : Vals dvs ds)
    (I : Inv X pins σ H s) (r : Vals vs us)
    (h : ∀ x dx, H x = none → H dx = none → dx ≠ x → spv (.ref x :: (vs ++ dvs)) (upd (upd H dx (.own x)) x (.ins C dx [])) (fun v H2 => v = .non ∧ Q (.ref x) H2) E0) :
    wpAny (model X.prog X.w) X.A (call (.ref C) us) (EP X pins σ Q) X.xe s := by
  have hq := h (s.heap.objs.size + 1) s.heap.objs.size (I.hok.fresh (Nat.le_succ _)) (I.hok.fresh (Nat.le_refl _)) (Nat.ne_of_lt (Nat.lt_succ_self _))
  have I2 := Inv.made (C := C) I
  have r2 : Vals (V.ref (s.heap.objs.size + 1) :: (vs ++ dvs)) (Value.ref (s.heap.objs.size + 1) :: (us ++ ds)) := .cons rfl (r.append hd)
  have hl : (Value.ref (s.heap.objs.size + 1) :: us ++ ds).length = ps.length := by
    have e := r2.length
    rw [F.len _ _ _ _ hq] at e
    exact e.symm
  refine wpAny_call (make_map (f := f) I.kIn M.makes M.init (beq_iff_eq.mp M.fn) (codeAny_mono (F.run _ X.stack _ _ ⟨Value.ref (s.heap.objs.size + 1) :: us, []⟩ (Value.ref (s.heap.objs.size + 1) :: (us ++ ds)) _ _ E0 (hr.make C us [])
    (I2.env0.make C us []) (hb _ (Value.ref (s.heap.objs.size + 1) :: us) I2.kIn hl) r2 hq) fun r s' hq' => ?_))
  cases r with
  | error e => exact hq'.elim
  | ok fl =>
    cases fl with
    | ret u =>
      obtain ⟨v, H', I3, rv, ev, q3⟩ := I2.after hq'
      subst ev
      exact ⟨rv, ⟨V.ref (s.heap.objs.size + 1), H', I3, rfl, q3⟩⟩
    | next => exact False.elim hq'
    | brk => exact False.elim hq'
    | cont => exact False.elim hq'
theorem pe_makeG (M : Mk X.K C f) (F : FnG X.prog X.w X.K X.mg X.base CX0 k f fd ps spv) (hr : Rm (k + 1) X.A) (hg : Gl X x) (hm : X.mg x = some (.ref C)) (hb : Binds X.K fd ps [])
    (ha : PA X (e :: es) t) (hdb : (x == ("__debug__" : Str)) = false := by decide) (he : starEach (e :: es) X.env = (false, eval e X.env) :: starEach es X.env := by rfl) (hpl : (backTo pos (starEach es X.env)).any (·.1) = false := by rfl) :
    PE X (.Call (.Name x p) (e :: es) [] pos) (tMake C spv [] E0 t) := by
  refine ⟨fun pins s σ H Q I h => ?_⟩
  refine wpAny_Call_Name_kw (ld_glob I hg hm ?_ hdb)
  refine PySem.W.callWith_K (h₀ := X.base) I.ok.mod.kin M.kp (thn (ha.run pos pins s σ H _ I h) fun us s1 ⟨vs, H1, I1, r, q⟩ => ⟨I1.kIn, ?_⟩) he hpl
  exact run_makeG M F hr hb .nil I1 r q
end
theorem argsL_of {K : PySem.W.Frag} {k : Wk} {sh : List Addr} {G H : Hp} : ∀ {vs : List V} {as : List EV}, ArgsOk K k G vs as → ArgsL K k sh G H sh.length vs as
  | _, _, .nil => .nil
  | _, _, .cons a t => .cons a (argsL_of t)
/-- C(..).m() -/
def mMkM (C : Addr) (m : Str) (spI spM : SpM) (a : MA) : ME := fun env P => a env fun as e1 => spI (.mo (some 0) (.ins C []) :: as) fun y cs => y = .none ∧ ∃ fs, cs = [.ins C fs] ∧ fs.lookup m = none ∧ spM [.mo (some 0) (.ins C fs)] fun z _ => P z e1
section
variable {X : Cx} {C : Addr} {m x : Str} {k1 k2 ci cm : Nat} {ps1 ps2 : List Str} {spI spM : SpM} {p p2 apos pos : Pos} {e : Expr} {es : List Expr} {m1 : MA} {n1 : Nat}
theorem mkm_ok {σ : L2.St} {H : Hp} {Q : VK} (h : tD X.K (n1 + (ci + cm)) (mMkM C m spI spM m1) σ H Q) : tMeth C m (spDM X.K cm spM) [] E0 (tMake C (spDM X.K ci spI) [] E0 (tA X.K n1 m1)) tNil σ H Q := by
  obtain ⟨W, B, G0, H0, G, env, P, R, hm, q⟩ := h
  refine ⟨W, B + (ci + cm), G0, H0, G, env, _, R.le (by omega), hm, fun as e1 vs G1 H1 p1 s1 R1 a1 a dx ha hdx hne => ?_⟩
  show spDM X.K ci spI (.ref a :: (vs ++ [])) _ _ _
  rw [List.append_nil]
  have ga : G1 a = none := R1.pub.free ha
  have ndk : ∀ b, H1 b = none → ¬ W.dk.mu b := fun b hb mm => by
    obtain ⟨o, ho⟩ := W.dk.trk _ H1 b R1.inv.1 mm
    rw [hb] at ho
    cases ho
  have up : ∀ b o, H1 b = some o → upd (upd H1 dx (.own a)) a (.ins C dx []) b = some o := fun b o hb => by
    rw [upd_ne (ne_of_none hb ha), upd_ne (ne_of_none hb hdx)]
    exact hb
  have dkl : ∀ B', W.dk.inv B' H1 → W.dk.inv B' (upd (upd H1 dx (.own a)) a (.ins C dx [])) := fun B' hi => W.dk.loc B' H1 _ (fun b mb => by
    obtain ⟨o, ho⟩ := W.dk.trk _ H1 b hi mb
    rw [up b o ho, ho]) hi
  have step : RW (.of W.dk) (B + (ci + cm)) G1 H1 G1 (upd (upd H1 dx (.own a)) a (.ins C dx [])) :=
    ⟨Same.refl _, fun b o hb => up b o (R1.pub b o hb), fun b mb => R1.gm b (.inl (of_mu.mp mb)), of_inv.mpr (dkl _ R1.inv.1), fun b o hb _ => up b o hb, fun b o h1 h2 => by rw [h1] at h2; cases h2⟩
  refine ⟨⟨W.dk, [a]⟩, B + cm, G1, _, _, by simp, ⟨Same.refl _, step.pub, fun b mb => ?_, ⟨(W.dk.low _ _ _ (by omega) (dkl _ R1.inv.1)), fun b hb => ?_, fun b hb => ?_⟩, fun _ _ h _ => h, fun b o h1 h2 => by rw [h1] at h2; cases h2⟩, .mo (c := .ins C []) rfl (show ∃ dx' us, _ ∧ _ from ⟨dx, [], upd_same, .nil⟩) (argsL_of a1), p1, fun y v cs G2 H2 p2 r2 hc d2 => ?_⟩
  · rcases mb with mb | mb
    · exact R1.gm b (.inl mb)
    · have : b = a := by simpa using mb
      subst this
      exact ga
  · have : b = a := by simpa using hb
    subst this
    exact ndk b ha
  · have : b = a := by simpa using hb
    subst this
    exact ⟨_, upd_same⟩
  · obtain ⟨ey, fs, ec, hno, hsp⟩ := p2
    subst ey
    subst ec
    obtain ⟨c', hc1, hc2⟩ := hc 0 a rfl
    cases hc1
    obtain ⟨dx', us, hl, hq⟩ := hc2
    cases dp_non d2
    have r1 : RW (.of W.dk) (B + cm) G1 H1 G2 H2 := (step.le (B' := B + (ci + cm)) (by omega)).trans (W' := ⟨W.dk, [a]⟩) rfl (fun b hb => .inr (by
      have : b = a := by simpa using hb
      subst this
      exact ha)) r2
    refine ⟨rfl, a, dx', us, rfl, hl, drFs_no hq hno, ?_⟩
    show spDM X.K cm spM [.ref a] H2 Q E0
    refine ⟨⟨W.dk, [a]⟩, B, G2, _, _, by simp, r2.self, .mo (c := .ins C fs) rfl (show ∃ dx' us, _ ∧ _ from ⟨dx', us, hl, hq⟩) .nil, hsp, fun z v cs G3 H3 p3 r3 _ d3 => ?_⟩
    have r4 : RW (.of W.dk) B G1 H1 G3 H3 := r1.trans (W' := ⟨W.dk, [a]⟩) rfl (fun b hb => .inr (by
      have : b = a := by simpa using hb
      subst this
      exact ha)) r3
    exact q z e1 v G3 H3 p3 (s1.trans r4.g0) (R1.after r4) d3
theorem ge_mkm {pl : Sem Bool} (MI : MkM X.prog X.w X.K X.mg X.base x C k1 ps1 ci spI) (MM : MthM X.prog X.w X.K X.mg X.base C m k2 ps2 cm spM) (cl : Cls X.K C) (r1 : Rm (k1 + 1) X.A) (r2 : Rm k2 X.A) (hg : Gl X x) (ha : GA X (e :: es) n1 m1)
    (hdb : (x == ("__debug__" : Str)) = false := by decide) (he : starEach (e :: es) X.env = (false, eval e X.env) :: starEach es X.env := by rfl) (hpl : (backTo p2 (starEach es X.env)).any (·.1) = false := by rfl)
    (ht : eval (.Call (.Attribute (.Call (.Name x p) (e :: es) [] p2) m apos) [] [] pos) X.env = (do
      let ov ← eval (.Call (.Name x p) (e :: es) [] p2) X.env
      standAt apos.atName
      let (f, first) ← holding [ov] (getMethod ov m pl)
      callWith pos f first (backTo pos (starEach [] X.env)) (backToKw pos (keywordEach [] X.env))) := by rfl) :
    GE X (.Call (.Attribute (.Call (.Name x p) (e :: es) [] p2) m apos) [] [] pos) (n1 + (ci + cm)) (mMkM C m spI spM m1) := by
  obtain ⟨f1, fd1, F1, M1, b1, g1⟩ := MI.ex
  obtain ⟨f2, fd2, F2, M2, b2⟩ := MM.ex
  exact pe_imp (pe_meth0G (pl := pl) (pe_makeG M1 F1 r1 hg g1 b1 ha hdb he hpl) cl M2 F2 r2 b2 ht) fun σ H Q h => mkm_ok h
end
end DL
namespace DL
open PySem PySem.Spec PyProof.Rows L2
/-! ### dicts -/
def keyOf : D → Option Key
  | .int i => some (.inl i)
  | .str z => some (.inr z)
  | _ => none
theorem keyOf_kV {K : PySem.W.Frag} {G : Hp} {v : V} {x : D} {k : Key} (h : keyOf x = some k) (d : Dr K G v x) : v = kV k := by
  cases x <;> simp [keyOf] at h
  · subst h
    cases d
    rfl
  · subst h
    cases d
    rfl
theorem keyOf_keyD (k : Key) : keyOf (keyD k) = some k := by cases k <;> rfl
def putKD : List (Key × D) → Key → D → List (Key × D)
  | [], k, y => [(k, y)]
  | (g, x) :: r, k, y => if g = k then (g, y) :: r else (g, x) :: putKD r k y
def valKD : List (Key × D) → Key → Option D
  | [], _ => none
  | (g, x) :: r, k => if g = k then some x else valKD r k
/-- of published ones -/
def valDD : List (D × D) → Key → Option D
  | [], _ => none
  | (g, x) :: r, k => if keyOf g = some k then some x else valDD r k
theorem valV_cons {g k : Key} {v : V} {r : List (Key × V)} : valV ((g, v) :: r) k = if g = k then some v else valV r k := by
  unfold valV
  rw [List.find?_cons]
  by_cases h : g = k
  · simp [h]
  · simp [h]
theorem putK_cons {g k : Key} {x v : V} {r : List (Key × V)} (nd : (((g, x) :: r).map (·.1)).Nodup) : putK ((g, x) :: r) k v = if g = k then (g, v) :: r else (g, x) :: putK r k v := by
  unfold putK
  by_cases h : g = k
  · subst h
    rw [if_pos rfl, if_pos (by simp)]
    rw [List.map_cons, List.nodup_cons] at nd
    rw [List.map_cons, if_pos rfl]
    congr 1
    conv => rhs; rw [← List.map_id r]
    refine List.map_congr_left fun p hp => ?_
    rw [if_neg fun z => nd.1 (List.mem_map.mpr ⟨p, hp, z⟩)]
    rfl
  · rw [if_neg h]
    by_cases z : (r.any fun kv => decide (kv.1 = k)) = true
    · rw [if_pos z, if_pos (by rw [List.any_cons, z, Bool.or_true]), List.map_cons, if_neg h]
    · rw [if_neg z, if_neg (by rw [List.any_cons]; simp [h]; simpa using z)]
      rfl
section
variable {K : PySem.W.Frag} {G : Hp}
theorem fs_keys : ∀ {us : List (Key × V)} {ks : List (Key × D)}, DrFs K G us ks → us.map (·.1) = ks.map (·.1)
  | _, _, .nil => rfl
  | _, _, .cons _ t => by rw [List.map_cons, List.map_cons, fs_keys t]
theorem fs_val (k : Key) : ∀ {us : List (Key × V)} {ks : List (Key × D)}, DrFs K G us ks → (∃ v y, valV us k = some v ∧ valKD ks k = some y ∧ Dr K G v y) ∨ (valV us k = none ∧ valKD ks k = none)
  | _, _, .nil => .inr ⟨rfl, rfl⟩
  | _, _, .cons (k := g) a t => by
    rw [valV_cons, valKD]
    by_cases h : g = k
    · rw [if_pos h, if_pos h]
      exact .inl ⟨_, _, rfl, rfl, a⟩
    · rw [if_neg h, if_neg h]
      exact fs_val k t
theorem fs_put {k : Key} {v : V} {y : D} (a : Dr K G v y) : ∀ {us : List (Key × V)} {ks : List (Key × D)}, DrFs K G us ks → (ks.map (·.1)).Nodup → DrFs K G (putK us k v) (putKD ks k y)
  | _, _, .nil, _ => .cons a .nil
  | _, _, .cons (k := g) (v := v0) (vs := vs0) b t, nd => by
    have nd2 : (((g, v0) :: vs0 : List (Key × V)).map (·.1)).Nodup := by
      rw [List.map_cons, fs_keys t]
      rw [List.map_cons] at nd
      exact nd
    rw [putK_cons nd2, putKD]
    by_cases h : g = k
    · rw [if_pos h, if_pos h]
      exact .cons a t
    · rw [if_neg h, if_neg h]
      rw [List.map_cons, List.nodup_cons] at nd
      exact .cons b (fs_put a t nd.2)
theorem kv_val (k : Key) : ∀ {us : List (Key × V)} {ds : List (D × D)}, DrKv K G us ds → (∃ v y, valV us k = some v ∧ valDD ds k = some y ∧ Dr K G v y) ∨ (valV us k = none ∧ valDD ds k = none)
  | _, _, .nil => .inr ⟨rfl, rfl⟩
  | _, _, .cons (k := g) a t => by
    rw [valV_cons, valDD, keyOf_keyD]
    by_cases h : g = k
    · rw [if_pos h, if_pos (by rw [h])]
      exact .inl ⟨_, _, rfl, rfl, a⟩
    · rw [if_neg h, if_neg (fun z => h (Option.some.inj z))]
      exact kv_val k t
end
/-- a new object in a slot -/
theorem Rel.newM {K : PySem.W.Frag} {W : Wd} {B : Nat} {G0 H0 G H : Hp} {env : DEnv} {σ : L2.St} {i : Nat} {p : Addr} {o : HO} {c : SC} (r : Rel K W B G0 H0 G env σ H) (hg : G p = none) (h0 : H0 p = none) (hm : ¬ W.mu p)
    (ho : ∀ (i : Nat) l w c, env[i]? = some (.mo w c) → σ[i]? = some (some (.ref l)) → l ≠ p) (hc : ScOk K G (upd H p o) p c) : Rel K W B G0 H0 G (env.set i (.mo none c)) (σ.set i (some (.ref p))) (upd H p o) where
  g0 := r.g0
  pub := fun a u e => by
    have ne : a ≠ p := fun z => by
      subst z
      rw [hg] at e
      cases e
    rw [upd_ne ne]
    exact r.pub a u e
  gm := r.gm
  inv := W.loc _ H _ (fun a m => by
    have ne : a ≠ p := fun z => by
      subst z
      exact hm m
    rw [upd_ne ne]) r.inv
  fr := fun a u e m => by
    have ne : a ≠ p := fun z => by
      subst z
      rw [h0] at e
      cases e
    rw [upd_ne ne]
    exact r.fr a u e m
  pn := r.pn
  len := by rw [List.length_set, List.length_set]; exact r.len
  slot := fun j e s h1 h2 => by
    by_cases z : i = j
    · subst z
      by_cases hl : i < env.length
      · rw [List.getElem?_set_self hl] at h1
        rw [List.getElem?_set_self (r.len ▸ hl)] at h2
        cases h1
        cases h2
        exact ⟨p, rfl, hg, ⟨h0, hm⟩, hc⟩
      · rw [List.getElem?_eq_none (by rw [List.length_set]; omega)] at h1
        cases h1
    · rw [List.getElem?_set_ne z] at h1 h2
      have q := r.slot j e s h1 h2
      cases e with
      | un => trivial
      | d x => exact q
      | hd => exact q
      | «at» _ => trivial
      | mo w2 c2 =>
        obtain ⟨l2, ee, n2, o2, q1⟩ := q
        subst ee
        refine ⟨l2, rfl, n2, o2, scok_later (Same.refl _) (fun u hu => ?_) q1⟩
        rw [upd_ne (ho j l2 w2 c2 h1 h2)]
        exact hu
  dis := fun j k wi ci wj cj l ne h1 h2 h3 h4 => by
    have bd : ∀ {n : Nat} {y}, (env.set i (.mo none c))[n]? = some y → n < env.length := fun {n y} h => by
      have := (List.getElem?_eq_some_iff.mp h).1
      rw [List.length_set] at this
      exact this
    have b1 := bd h1
    have b2 := bd h2
    by_cases z1 : i = j
    · subst z1
      rw [List.getElem?_set_self (r.len ▸ b1)] at h3
      cases h3
      rw [List.getElem?_set_ne ne] at h2 h4
      exact ho k _ _ _ h2 h4 rfl
    · rw [List.getElem?_set_ne z1] at h1 h3
      by_cases z2 : i = k
      · subst z2
        rw [List.getElem?_set_self (r.len ▸ b2)] at h4
        cases h4
        exact ho j _ _ _ h1 h3 rfl
      · rw [List.getElem?_set_ne z2] at h2 h4
        exact r.dis j k wi ci wj cj l ne h1 h2 h3 h4
/-- x = {..}, x a dict of one's own -/
def sSetD (i : Nat) (ms : List Ent) : MS := fun E env => mKvs ms env fun kvs e1 => E.nx (e1.set i (.mo none (.dic (kvs.map fun p => (Sum.inr p.1, p.2)))))
def sSetD0 (i : Nat) : MS := fun E env => E.nx (env.set i (.mo none (.dic [])))
/-- x[k] = e -/
def sDputM (i : Nat) (mv mk : ME) : MS := fun E env => mv env fun y e1 => (∃ w kvs, e1[i]? = some (.mo w (.dic kvs))) ∧ mk e1 fun z e2 => match e2[i]?, keyOf z with
  | some (.mo w (.dic kvs)), some k => ((kvs.map (·.1)).Nodup ∧ kvs.length < sizeLine) ∧ E.nx (e2.set i (.mo w (.dic (putKD kvs k y))))
  | _, _ => False
/-- x[k] -/
def mDixM (i : Nat) (mk : ME) : ME := fun env P => (∃ w kvs, env[i]? = some (.mo w (.dic kvs))) ∧ mk env fun z e1 => match e1[i]?, keyOf z with
  | some (.mo _ (.dic kvs)), some k => ∃ y, valKD kvs k = some y ∧ P y e1
  | _, _ => False
/-- k in x -/
def mDinM (neg : Bool) (i : Nat) (mk : ME) : MT := fun env P => mk env fun z e1 => match e1[i]?, keyOf z with
  | some (.mo _ (.dic kvs)), some k => P (if neg then !(valKD kvs k).isSome else (valKD kvs k).isSome) e1
  | _, _ => False
/-- a published dict: d[k] -/
def dDix : D → D → (D → Prop) → Prop
  | .dict ds, z, P => match keyOf z with
    | some k => ∃ y, valDD ds k = some y ∧ P y
    | none => False
  | _, _, _ => False
def fsKv (kvs : List (Str × D)) : List (Key × D) := kvs.map fun p => (Sum.inr p.1, p.2)
theorem kv_fs {K : PySem.W.Frag} {G : Hp} : ∀ {vs : List (Key × V)} {kvs : List (Str × D)}, DrKv K G vs (kvD kvs) → vs.map (·.1) = kvs.map (fun p => Sum.inr p.1) → DrFs K G vs (fsKv kvs)
  | [], [], _, _ => .nil
  | [], _ :: _, _, e => by cases e
  | _ :: _, [], _, e => by cases e
  | (g, v) :: vs, (z, y) :: kvs, h, e => by
    rw [List.map_cons, List.map_cons] at e
    have e1 : g = Sum.inr z := (List.cons.inj e).1
    subst e1
    cases h with
    | cons a t => exact .cons a (kv_fs t (List.cons.inj e).2)
theorem kv_keys {K : PySem.W.Frag} {G : Hp} : ∀ {vs : List (Key × V)} {kvs : List (Str × D)}, DrKv K G vs (kvD kvs) → vs.map (·.1) = kvs.map (fun p => Sum.inr p.1)
  | [], [], _ => rfl
  | [], _ :: _, h => by cases h
  | _ :: _, [], h => by cases h
  | (g, v) :: vs, (z, y) :: kvs, h => by
    have h : DrKv K G ((g, v) :: vs) ((.str z, y) :: kvD kvs) := h
    generalize hz : PyData.str z = dz at h
    cases h with
    | cons a t =>
      rw [List.map_cons, List.map_cons, kv_keys t]
      congr 1
      cases g with
      | inl _ => cases hz
      | inr _ =>
        cases hz
        rfl
section
variable {X : Cx} {pos pos' px : Pos} {keys : List (Option Expr)} {values : List Expr} {i : Nat} {x : Str} {e b a : Expr} {nv nb na : Nat} {mv mk ma mb : ME}
theorem gs_setD {pt : Pos} (ms : List Ent) (hN : X.N.Nodup) (hi : X.N[i]? = some x) (hx : Loc X.env.scope x) (h : PPs X pos keys values (dispT X.K ms)) (hall : keys.all (·.isSome) = true) (hl : keys.length = values.length) (h0 : keys ≠ []) (h15 : keys.length ≤ 15) (nd : (ms.map (·.1)).Nodup) (hk : ms.length ≤ 15)
    (hs : swapsWith (.Dict keys values pos) (some (.Name x pt)) pos'.line X.env = pure false := by rfl) (hf : X.fn x = true ∨ X.env.scope.names.lookup x = some .local := by first | exact .inl rfl | exact .inr rfl) :
    GS X (.Assign [.Name x pt] (.Dict keys values pos) pos') (dispN ms) (sSetD i ms) := ps_imp (ps_set hN hi hx (pe_disp h hall hl h0 h15) hs hf) fun D σ H h => by
  obtain ⟨W, B, G0, H0, G, env, E, R, hm, q⟩ := h
  intro p hp
  obtain ⟨R1, f1, f2, f3, f4⟩ := R.fresh (o := .dK []) hp
  have R2 := R1.guard upd_same f1 f4
  have g0 : G0 p = none := R.g0.free f1
  refine pairs_ok ms B G _ env _ _ R2 hm fun kvs e1 G1 H1 vs p1 s1 R3 dv ek => ?_
  obtain ⟨R4, hp4, gp4, ho4⟩ := R3.unguard f3 g0 f2
  have vl : vs.length = ms.length := by
    have := congrArg List.length ek
    simpa using this
  refine ⟨hp4, vs, rfl, by omega, ?_⟩
  have em : mergeK [] vs = vs := by
    refine merge_new vs [] ?_
    rw [List.nil_append, ek]
    have e2 : (ms.map fun t => (Sum.inr t.1 : Key)) = (ms.map (·.1)).map Sum.inr := by
      rw [List.map_map]
      rfl
    rw [e2]
    exact List.Pairwise.map _ (fun a b z w => z (Sum.inr.inj w)) nd
  rw [em]
  have ek2 := kv_keys dv
  exact q.nx _ _ _ _ p1 s1 (R4.newM gp4 f2 f3 ho4 (show ∃ us, _ ∧ _ from ⟨vs, upd_same, kv_fs dv ek2⟩))
theorem gs_setD0 {pt : Pos} (hN : X.N.Nodup) (hi : X.N[i]? = some x) (hx : Loc X.env.scope x) (hs : swapsWith (.Dict [] [] pos) (some (.Name x pt)) pos'.line X.env = pure false := by rfl) (hf : X.fn x = true ∨ X.env.scope.names.lookup x = some .local := by first | exact .inl rfl | exact .inr rfl) :
    GS X (.Assign [.Name x pt] (.Dict [] [] pos) pos') 0 (sSetD0 i) := ps_imp (ps_set hN hi hx pe_dnewK hs hf) fun D σ H h => by
  obtain ⟨W, B, G0, H0, G, env, E, R, hm, q⟩ := h
  intro p hp
  obtain ⟨R1, f1, f2, f3, f4⟩ := R.fresh (o := .dK []) hp
  exact q.nx _ _ _ _ hm (Same.refl _) (R.newM f1 f2 f3 f4 (show ∃ us, _ ∧ _ from ⟨[], upd_same, .nil⟩))
theorem gs_dputM (i : Nat) {x : Str} (hu : X.A.units + 64 < cLine) (he : GE X e nv mv) (hb : GE X b nb mk) (hN : X.N[i]? = some x := by rfl) (hv : Vis X.env.scope x := by first | exact Or.inl rfl | exact Or.inr (Or.inl rfl) | exact Or.inr (Or.inr rfl)) (hd : (x == ("__debug__" : Str)) = false := by decide)
    (hcd : (x == ("__classdict__" : Str)) = false := by decide) (hs : swapsWith e (some (.Subscript (.Name x px) b pos')) pos.line X.env = pure false := by rfl) :
    GS X (.Assign [.Subscript (.Name x px) b pos'] e pos) (nv + nb) (sDputM i mv mk) := ps_imp (ps_dput (by omega) (pe_var hN hv hd hcd) hb he hs) fun D σ H h => by
  obtain ⟨W, B, G0, H0, G, env, E, R, hm, q⟩ := h
  refine ⟨W, B + nb, G0, H0, G, env, _, R.le (by omega), hm, fun y e1 v G1 H1 p1 s1 R1 d1 => ?_⟩
  obtain ⟨⟨w, kvs, hx⟩, p1⟩ := p1
  obtain ⟨l, f1, _, _, us, hl, hq⟩ := R1.get_mo hx
  refine ⟨_, f1, W, B, G0, H0, G1, e1, _, R1, p1, fun z e2 u G2 H2 p2 s2 R2 d2 => ?_⟩
  split at p2
  · rename_i w2 kvs2 k hy hk
    obtain ⟨l2, f2, _, _, us2, hl2, hq2⟩ := R2.get_mo hy
    rw [f1] at f2
    cases f2
    have ek := keyOf_kV hk d2
    subst ek
    obtain ⟨⟨nd, hlen⟩, hP⟩ := p2
    refine ⟨l, _, rfl, DPut.k hl2 (by rw [drFs_len hq2]; exact hlen), ?_⟩
    exact q.nx _ _ _ _ hP (s1.trans s2) (R2.put hy f1 (show ∃ us, _ ∧ _ from ⟨_, upd_same, fs_put (dp_same s2 d1) hq2 nd⟩))
  · exact p2.elim
theorem ge_dixM (i : Nat) {x : Str} (hu : X.A.units + 64 < cLine) (hb : GE X b nb mk) (hsl : NoSl b) (hN : X.N[i]? = some x := by rfl) (hv : Vis X.env.scope x := by first | exact Or.inl rfl | exact Or.inr (Or.inl rfl) | exact Or.inr (Or.inr rfl)) (hd : (x == ("__debug__" : Str)) = false := by decide)
    (hcd : (x == ("__classdict__" : Str)) = false := by decide) : GE X (.Subscript (.Name x px) b pos) nb (mDixM i mk) := pe_imp (pe_dget (by omega) (pe_var hN hv hd hcd) hb hsl) fun σ H Q h => by
  obtain ⟨W, B, G0, H0, G, env, P, R, ⟨⟨w, kvs, hx⟩, hm⟩, q⟩ := h
  obtain ⟨l, f1, _, _, us, hl, hq⟩ := R.get_mo hx
  refine ⟨_, f1, W, B, G0, H0, G, env, _, R, hm, fun z e2 u G2 H2 p2 s2 R2 d2 => ?_⟩
  split at p2
  · rename_i w2 kvs2 k hy hk
    obtain ⟨l2, f2, _, _, us2, hl2, hq2⟩ := R2.get_mo hy
    rw [f1] at f2
    cases f2
    have ek := keyOf_kV hk d2
    subst ek
    obtain ⟨y, hv, hP⟩ := p2
    rcases fs_val k hq2 with ⟨v, y', g1, g2, dv⟩ | ⟨_, g2⟩
    · rw [hv] at g2
      cases g2
      refine ⟨l, v, rfl, ?_, q _ _ _ _ _ hP s2 R2 dv⟩
      rw [← g1]
      exact DGet.k hl2
    · rw [hv] at g2
      cases g2
  · exact p2.elim
theorem ge_dix (hu : X.A.units + 64 < cLine) (ha : GE X a na ma) (hb : GE X b nb mb) (hsl : NoSl b) : GE X (.Subscript a b pos) (na + nb) (mOp dDix ma mb) := pe_imp (pe_dget (by omega) ha hb hsl) fun σ H Q h => by
  refine two_ok (r := fun x y H Q => ∃ a v, x = .ref a ∧ DGet H a y (some v) ∧ Q v H) (fun x y H Q z => ?_) h
  obtain ⟨G, dx, dy, P, sG, d1, d2, hf, q⟩ := z
  unfold dDix at hf
  split at hf
  · obtain ⟨l, us, rfl, hl, hq⟩ := dp_dic d1
    split at hf
    · rename_i k hk
      have ek := keyOf_kV hk d2
      subst ek
      obtain ⟨y', hv, hP⟩ := hf
      rcases kv_val k hq with ⟨v, y2, g1, g2, dv⟩ | ⟨_, g2⟩
      · rw [hv] at g2
        cases g2
        refine ⟨l, v, rfl, ?_, q _ _ G H hP (Grow.refl sG) dv⟩
        rw [← g1]
        exact DGet.k (sG _ _ hl)
      · rw [hv] at g2
        cases g2
    · exact hf.elim
  · exact hf.elim
end
end DL
namespace DL
open PySem PySem.Spec PyProof.Rows L2
/-! ### a dict of the module: texts to texts or numbers -/
def lookS (kvs : List (Str × D)) (z : Str) : Option D := kvs.lookup z
structure GDict (K : PySem.W.Frag) (w : World) (mg : Str → Option Value) (x : Str) (kvs : List (Str × D)) : Prop where
  ex : ∃ (d : Addr) (es : Array DictEntry) (n : Nat), mg x = some (.ref d) ∧ KDict K w d es n ∧ ∀ z : Str, (kvs.lookup z = none ∧ PySem.W.nsIn K d z = some none) ∨ ∃ y u v, kvs.lookup z = some y ∧ PySem.W.nsIn K d z = some (some u) ∧ RelV v u ∧ ∀ G, Dr K G v y
/-- entries by data -/
inductive EntR (K : PySem.W.Frag) : List DictEntry → List (Str × D) → Prop
  | nil : EntR K [] []
  | cons {e : DictEntry} {es : List DictEntry} {z : Str} {t : Tok} {y : D} {v : V} {kvs : List (Str × D)} : e.key = .str z t → RelV v e.val → (∀ G, Dr K G v y) → EntR K es kvs → EntR K (e :: es) ((z, y) :: kvs)
theorem entR_ref {K : PySem.W.Frag} : ∀ {es : List DictEntry} {kvs : List (Str × D)}, EntR K es kvs → es.any (·.refKey) = false
  | _, _, .nil => rfl
  | _, _, .cons (e := e) h _ _ t => by
    rw [List.any_cons, entR_ref t, Bool.or_false]
    unfold DictEntry.refKey
    rw [h]
theorem entR_find {K : PySem.W.Frag} (x : Str) : ∀ {es : List DictEntry} {kvs : List (Str × D)}, EntR K es kvs → (kvs.lookup x = none ∧ es.find? (·.key.isStr x) = none) ∨ ∃ y e v, kvs.lookup x = some y ∧ es.find? (·.key.isStr x) = some e ∧ RelV v e.val ∧ ∀ G, Dr K G v y
  | _, _, .nil => .inl ⟨rfl, rfl⟩
  | _, _, .cons (e := e) (z := z) (t := t) (y := y) (v := v) h r d tl => by
    rw [List.find?_cons, List.lookup_cons, h]
    have e1 : (Value.str z t).isStr x = (z == x) := rfl
    rw [e1]
    by_cases hz : x = z
    · subst hz
      have a1 : (x == x) = true := beq_self_eq_true x
      rw [a1]
      exact .inr ⟨y, e, v, rfl, rfl, r, d⟩
    · have a1 : (x == z) = false := beq_eq_false_iff_ne.mpr hz
      have a2 : (z == x) = false := beq_eq_false_iff_ne.mpr fun q => hz q.symm
      rw [a1, a2]
      exact entR_find x tl
theorem gdict_mk {K : PySem.W.Frag} {w : World} {h : Heap} {mg : Str → Option Value} {x : Str} {d : Addr} {es : List DictEntry} {n : Nat} {kvs : List (Str × D)} (X : K.In h) (G : h.Ns mainGlobals mg) (a : PySem.W.nsIn K mainGlobals x = some (some (.ref d)))
    (l : K.lookup d = some ⟨.type "dict", none, .dict es.toArray n, #[]⟩) (lit : PySem.W.KeysLit w.params es) (low : (d == sysModules) = false) (r : EntR K es kvs) : GDict K w mg x kvs := by
  refine ⟨d, es.toArray, n, PySem.W.mg_of X G a, ⟨l, lit, low⟩, fun z => ?_⟩
  have hn : PySem.W.nsIn K d z = (match es.find? (·.key.isStr z) with
      | some e => some (some e.val)
      | none => if es.any (·.refKey) then none else some none) := by
    unfold PySem.W.nsIn
    rw [l]
    rfl
  rcases entR_find z r with ⟨h1, h2⟩ | ⟨y, e, v, h1, h2, h3, h4⟩
  · refine .inl ⟨h1, ?_⟩
    rw [hn, h2, entR_ref r]
    rfl
  · refine .inr ⟨y, e.val, v, h1, ?_, h3, h4⟩
    rw [hn, h2]
def mGin (neg : Bool) (kvs : List (Str × D)) (m : ME) : MT := fun env P => m env fun y e1 => match y with
  | .str z => P (if neg then !(kvs.lookup z).isSome else (kvs.lookup z).isSome) e1
  | _ => False
def mGinV (neg : Bool) (kvs : List (Str × D)) (m : ME) : ME := fun env P => m env fun y e1 => match y with
  | .str z => P (.bool (if neg then !(kvs.lookup z).isSome else (kvs.lookup z).isSome)) e1
  | _ => False
def mGix (kvs : List (Str × D)) (m : ME) : ME := fun env P => m env fun y e1 => match y with
  | .str z => ∃ v, kvs.lookup z = some v ∧ P v e1
  | _ => False
section
variable {X : Cx} {e : Expr} {n : Nat} {m : ME} {x : Str} {kvs : List (Str × D)} {p pos : Pos}
theorem ix_kd {d : Addr} {es : Array DictEntry} {n : Nat} (D : KDict X.K X.w d es n) : IxR X (fun x y H Q => ∃ (z : Str) (u0 : Value) (v0 : V), x = .ref d ∧ y = .str z ∧ PySem.W.nsIn X.K d z = some (some u0) ∧ RelV v0 u0 ∧ Q v0 H) := by
  intro value slice pins s σ H x y v u Q I rx ry h hs
  have hx : x = .ref d := by
    obtain ⟨z, u0, v0, e, _⟩ := h
    exact e
  subst hx
  have hv : v = Value.ref d := rx
  subst hv
  exact tail_any (kd_type D I) PySem.F.slot_dict_getitem.lookup (op_item_kd D pins s σ H _ _ _ u Q I rx ry h) hs
theorem ge_gix (GD : GDict X.K X.w X.mg x kvs) (hg : Gl X x) (he : GE X e n m) (hs : PlainIx e) (hdb : (x == ("__debug__" : Str)) = false := by decide) : GE X (.Subscript (.Name x p) e pos) n (mGix kvs m) := by
  obtain ⟨d, es, k, hm, KD, hl⟩ := GD.ex
  refine pe_imp (pe_ix (ix_kd KD) (pe_glob (v := .ref d) hg hm rfl hdb) he hs) fun σ H Q h => ?_
  obtain ⟨W, B, G0, H0, G, env, P, R, hm, q⟩ := h
  refine ⟨W, B, G0, H0, G, env, _, R, hm, fun y e1 v G1 H1 p1 s1 R1 d1 => ?_⟩
  cases y with
  | str z =>
    cases dp_str d1
    obtain ⟨y, hy, hP⟩ := p1
    rcases hl z with ⟨h1, _⟩ | ⟨y', u, v', h1, h2, h3, h4⟩
    · rw [hy] at h1
      cases h1
    · rw [hy] at h1
      cases h1
      exact ⟨z, u, v', rfl, rfl, h2, h3, q _ _ _ _ _ hP s1 R1 (h4 G1)⟩
  | _ => exact p1.elim
theorem gin_ok {d : Addr} {σ : L2.St} {H : Hp} {Q : Bool → Hp → Prop} {neg : Bool} (hl : ∀ z : Str, (kvs.lookup z = none ∧ PySem.W.nsIn X.K d z = some none) ∨ ∃ y u v, kvs.lookup z = some y ∧ PySem.W.nsIn X.K d z = some (some u) ∧ RelV v u ∧ ∀ G, Dr X.K G v y)
    (h : tDT X.K n (mGin neg kvs m) σ H Q) : tTest (tOp (fun x y H Q => ∃ (z : Str) (r : Option Value), x = .str z ∧ y = .ref d ∧ PySem.W.nsIn X.K d z = some r ∧ Q (.bl (if neg then !r.isSome else r.isSome)) H) (tD X.K n m) (tC (.ref d))) σ H Q := by
  obtain ⟨W, B, G0, H0, G, env, P, R, hm, q⟩ := h
  refine ⟨W, B, G0, H0, G, env, _, R, hm, fun y e1 v G1 H1 p1 s1 R1 d1 => ?_⟩
  cases y with
  | str z =>
    cases dp_str d1
    rcases hl z with ⟨h1, h2⟩ | ⟨y', u, v', h1, h2, h3, h4⟩
    · refine ⟨z, none, rfl, rfl, h2, _, rfl, ?_⟩
      have p1 : P (if neg then !(kvs.lookup z).isSome else (kvs.lookup z).isSome) e1 := p1
      rw [h1] at p1
      exact q _ _ _ _ p1 s1 R1
    · refine ⟨z, some u, rfl, rfl, h2, _, rfl, ?_⟩
      have p1 : P (if neg then !(kvs.lookup z).isSome else (kvs.lookup z).isSome) e1 := p1
      rw [h1] at p1
      exact q _ _ _ _ p1 s1 R1
  | _ => exact p1.elim
theorem gt_gin (GD : GDict X.K X.w X.mg x kvs) (hg : Gl X x) (he : GE X e n m) (hdb : (x == ("__debug__" : Str)) = false := by decide) (hmk : behindInMarks .In (.Name x p) = false := by rfl) : GT X (.Compare e [.In] [.Name x p] pos) n (mGin false kvs m) := by
  obtain ⟨d, es, k, hm, KD, hl⟩ := GD.ex
  exact pt_imp (pt_cmpR (op_in_kd KD) he (pe_glob (v := .ref d) hg hm rfl hdb) hmk) fun σ H Q h => gin_ok (neg := false) hl h
theorem gt_gnin (GD : GDict X.K X.w X.mg x kvs) (hg : Gl X x) (he : GE X e n m) (hdb : (x == ("__debug__" : Str)) = false := by decide) (hmk : behindInMarks .NotIn (.Name x p) = false := by rfl) : GT X (.Compare e [.NotIn] [.Name x p] pos) n (mGin true kvs m) := by
  obtain ⟨d, es, k, hm, KD, hl⟩ := GD.ex
  exact pt_imp (pt_cmpR (op_notIn_kd KD) he (pe_glob (v := .ref d) hg hm rfl hdb) hmk) fun σ H Q h => gin_ok (neg := true) hl h
theorem ge_gin (GD : GDict X.K X.w X.mg x kvs) (hg : Gl X x) (he : GE X e n m) (hdb : (x == ("__debug__" : Str)) = false := by decide) (hmk : behindInMarks .In (.Name x p) = false := by rfl) : GE X (.Compare e [.In] [.Name x p] pos) n (mGinV false kvs m) := by
  obtain ⟨d, es, k, hm, KD, hl⟩ := GD.ex
  refine pe_imp (pe_cmpR (op_in_kd KD) he (pe_glob (v := .ref d) hg hm rfl hdb) hmk) fun σ H Q h => ?_
  obtain ⟨W, B, G0, H0, G, env, P, R, hm, q⟩ := h
  refine ⟨W, B, G0, H0, G, env, _, R, hm, fun y e1 v G1 H1 p1 s1 R1 d1 => ?_⟩
  cases y with
  | str z =>
    cases dp_str d1
    have p1 : P (.bool (kvs.lookup z).isSome) e1 := p1
    rcases hl z with ⟨h1, h2⟩ | ⟨y', u, v', h1, h2, h3, h4⟩
    · refine ⟨z, none, rfl, rfl, h2, ?_⟩
      rw [h1] at p1
      exact q _ _ _ _ _ p1 s1 R1 (.bl _)
    · refine ⟨z, some u, rfl, rfl, h2, ?_⟩
      rw [h1] at p1
      exact q _ _ _ _ _ p1 s1 R1 (.bl _)
  | _ => exact p1.elim
/-- x.partition(y) -/
def fPart : D → List D → (D → Prop) → Prop
  | .str a, [.str b], P => ((b.length == 0) = false ∧ a.length ≤ sizeLine) ∧ P (.tuple [.str (Txt.partition a b).1, .str (Txt.partition a b).2.1, .str (Txt.partition a b).2.2])
  | _, _, _ => False
theorem md_partition : MtR X "str.partition" (rDM X.K fPart) := by
  intro pins s σ H x xs v us Q I rx rs h
  obtain ⟨G, dx, ds, P, sG, d1, da, hf, q⟩ := h
  unfold fPart at hf
  split at hf
  · cases dp_str d1
    obtain ⟨w, rfl, d⟩ := all1 da
    cases dp_str d
    exact mt_partition pins s σ H _ _ v us Q I rx rs ⟨_, _, rfl, rfl, hf.1.1, hf.1.2, fun p hp => q _ _ _ _ hf.2 (Grow.new1 sG hp) (.tup (SqT.of upd_same) (.cons (.str _) (.cons (.str _) (.cons (.str _) .nil))))⟩
  · exact hf.elim
end
end DL
namespace DL
open PySem PySem.Spec PyProof.Rows L2
/-! ### f(.., [..]): a new list is lent -/
abbrev MAF := DEnv → (List EV → List D → DEnv → Prop) → Prop
def tAF (K : PySem.W.Frag) (n : Nat) (m : MAF) : TA := fun σ H Q => ∃ (W : Wd) (B : Nat) (G0 H0 G : Hp) (env : DEnv) (P : List EV → List D → DEnv → Prop), Rel K W (B + n) G0 H0 G env σ H ∧ m env P ∧
  ∀ as xs env' vs p G' H', P as xs env' → Same G G' → Rel K W B G0 H0 G' env' σ H' → ArgsOk K W.dk G' vs as → FreshAt K W H0 G' env' σ H' p xs → Q (vs ++ [.ref p]) H'
abbrev GAF (X : Cx) (es : List Expr) (n : Nat) (m : MAF) : Prop := PA X es (tAF X.K n m)
def mLastF (mf : MF) : MAF := fun env P => mf env fun xs e1 => P [] xs e1
def mConsF (a : ME) (r : MAF) : MAF := fun env P => a env fun x e1 => r e1 fun as xs e2 => P (.d x :: as) xs e2
def mConsHF (i : Nat) (r : MAF) : MAF := fun env P => match env[i]? with
  | some .hd => r env fun as xs e2 => P (.hd :: as) xs e2
  | _ => False
def mCallF (sp : SpM) (a : MAF) : ME := fun env P => a env fun as xs e1 => sp (as ++ [.mo (some 0) (.lst xs)]) fun x _ => P x e1
section
variable {X : Cx} {e : Expr} {es : List Expr} {pos : Pos} {me : ME} {m1 : MAF} {mf : MF} {ne n1 : Nat}
theorem gaf_last (h : GF X e ne mf) (hs : starEach [e] X.env = (false, eval e X.env) :: starEach [] X.env := by rfl) : GAF X [e] ne (mLastF mf) := pa_imp (pa_cons h pa_nil hs) fun σ H Q h => by
  obtain ⟨W, B, G0, H0, G, env, P, R, hm, q⟩ := h
  exact ⟨W, B, G0, H0, G, env, _, R, hm, fun xs e1 p G1 H1 p1 s1 R1 f1 => q [] xs e1 [] p G1 H1 p1 s1 R1 .nil f1⟩
theorem gaf_cons (ha : GE X e ne me) (hr : GAF X es n1 m1) (hs : starEach (e :: es) X.env = (false, eval e X.env) :: starEach es X.env := by rfl) : GAF X (e :: es) (ne + n1) (mConsF me m1) := pa_imp (pa_cons ha hr hs) fun σ H Q h => by
  obtain ⟨W, B, G0, H0, G, env, P, R, hm, q⟩ := h
  refine ⟨W, B + n1, G0, H0, G, env, _, R.le (by omega), hm, fun x e1 v G1 H1 p1 s1 R1 d1 => ⟨W, _, G0, H0, G1, e1, _, R1, p1, fun as xs e2 vs p G2 H2 p2 s2 R2 d2 f2 => ?_⟩⟩
  exact q _ xs e2 (v :: vs) p G2 H2 p2 (s1.trans s2) R2 (.cons (a := .d x) (dp_same s2 d1) d2) f2
theorem gaf_hd (i : Nat) {x : Str} (hr : GAF X es n1 m1) (hN : X.N[i]? = some x := by rfl) (hv : Vis X.env.scope x := by first | exact Or.inl rfl | exact Or.inr (Or.inl rfl) | exact Or.inr (Or.inr rfl)) (hd : (x == ("__debug__" : Str)) = false := by decide)
    (hcd : (x == ("__classdict__" : Str)) = false := by decide) (hs : starEach (.Name x pos :: es) X.env = (false, eval (.Name x pos) X.env) :: starEach es X.env := by rfl) : GAF X (.Name x pos :: es) n1 (mConsHF i m1) := pa_imp (pa_cons (pe_var hN hv hd hcd) hr hs) fun σ H Q h => by
  obtain ⟨W, B, G0, H0, G, env, P, R, hm, q⟩ := h
  unfold mConsHF at hm
  split at hm
  · obtain ⟨e1, nn⟩ := R.get_hd (by assumption)
    refine ⟨_, e1, W, B, G0, H0, G, env, _, R, hm, fun as xs e2 vs p G2 H2 p2 s2 R2 d2 f2 => ?_⟩
    exact q _ xs e2 (_ :: vs) p G2 H2 p2 s2 R2 (.cons (a := .hd) ⟨rfl, nn⟩ d2) f2
  · exact hm.elim
end
theorem argsL_snoc {K : PySem.W.Frag} {k : Wk} {l : Addr} {c : SC} {G H : Hp} (hc : ScOk K G H l c) : ∀ {vs : List V} {as : List EV}, ArgsOk K k G vs as → ArgsL K k [l] G H 0 (vs ++ [.ref l]) (as ++ [.mo (some 0) c])
  | _, _, .nil => .mo (n := 0) rfl hc .nil
  | _, _, .cons a t => .cons a (argsL_snoc hc t)
section
variable {K : PySem.W.Frag} {σ : L2.St} {H : Hp}
theorem callF_ok {cc : Nat} {sp : SpM} {E : XK} {n1 : Nat} {m1 : MAF} {Q : VK} (h : tD K (n1 + cc) (mCallF sp m1) σ H Q) : tCall (spDM K cc sp) [] E (tAF K n1 m1) σ H Q := by
  obtain ⟨W, B, G0, H0, G, env, P, R, hm, q⟩ := h
  refine ⟨W, B + cc, G0, H0, G, env, _, R.le (by omega), hm, fun as xs e1 vs p G1 H1 p1 s1 R1 a1 f1 => ?_⟩
  show spDM K cc sp ((vs ++ [.ref p]) ++ []) H1 Q E
  rw [List.append_nil]
  obtain ⟨us, hp, hg, h0, hmu, hd, hq⟩ := f1
  refine ⟨⟨W.dk, [p]⟩, B, G1, _, _, by simp, ⟨Same.refl _, R1.pub, fun a m => ?_, ⟨R1.inv.1, fun a m => ?_, fun a m => ?_⟩, fun _ _ h _ => h, fun a o h h' => by rw [h] at h'; cases h'⟩, argsL_snoc (c := .lst xs) (show ScOk K G1 H1 p (.lst xs) from ⟨us, hp, hq⟩) a1, p1, fun x v cs G2 H2 p2 r2 hc d2 => ?_⟩
  · rcases m with m | m
    · exact R1.gm a (.inl m)
    · have : a = p := by simpa using m
      subst this
      exact hg
  · have : a = p := by simpa using m
    subst this
    exact fun z => hmu (.inl z)
  · have : a = p := by simpa using m
    subst this
    exact ⟨_, hp⟩
  · refine q x _ v G2 H2 p2 (s1.trans r2.g0) (R1.after' (W' := ⟨W.dk, [p]⟩) rfl (fun a m => ?_) r2 rfl fun i e he => .inl ⟨he, fun w c l ew hs m => ?_⟩) d2
    · have : a = p := by simpa using m
      subst this
      exact .inr h0
    · subst ew
      exact hd i l w c he hs (by simpa using m)
end
section
variable {X : Cx} {k c : Nat} {ps : List Str} {sp : SpM} {x : Str} {p pos : Pos} {e : Expr} {es : List Expr} {m1 : MAF} {n1 : Nat}
theorem ge_calF (C : CalM X.prog X.w X.K X.mg X.base x k ps c sp) (r : Rm k X.A) (hg : Gl X x)
    (ha : GAF X (e :: es) n1 m1) (hdb : (x == ("__debug__" : Str)) = false := by decide) (he : starEach (e :: es) X.env = (false, eval e X.env) :: starEach es X.env := by rfl) (hpl : (backTo pos (starEach es X.env)).any (·.1) = false := by rfl) :
    GE X (.Call (.Name x p) (e :: es) [] pos) (n1 + c) (mCallF sp m1) := by
  obtain ⟨f, fd, F, hm, hk, hb⟩ := C.ex
  exact pe_imp (pe_callG F r hg hm hk hb .nil pass0 ha hdb he hpl) fun σ H Q h => callF_ok h
end
end DL
namespace DL
open PySem PySem.Spec PyProof.Rows L2
/-! ### two targets, the first an own list, the second a difference -/
def sParFS (i j kb : Nat) (k : Int) (mf : MF) : MS := fun E env => mf env fun xs e1 => match e1[kb]? with
  | some (.d (.int y)) => E.nx ((e1.set i (.own xs)).set j (.d (.int (y - k))))
  | _ => False
theorem gs_parFS {X : Cx} {a : Expr} {n1 : Nat} {mf : MF} {pos : Pos} {i j kb : Nat} {k : Int} {x y z : Str} {px py pz pk pb pt pt2 : Pos} {jj : Nat} {kt k2 : Nat} (hc : X.calm = true) (hN : X.N.Nodup) (hi : X.N[i]? = some x) (hj : X.N[j]? = some y) (hij : i ≠ j) (hx : X.env.scope.names.lookup x = some .local) (hy : X.env.scope.names.lookup y = some .local)
    (ha : GF X a n1 mf) (hk : X.N[kb]? = some z) (hv : Vis X.env.scope z) (hw : swappedStores [.Tuple [.Name x px, .Name y py] kt pt] (.Tuple [a, .BinOp (.Name z pz) .Sub (.Constant (.int k) jj pk) pb] k2 pt2) X.env = pure (some [x, y]))
    (hd : (z == ("__debug__" : Str)) = false := by decide) (hcd : (z == ("__classdict__" : Str)) = false := by decide) (he : starEach [a, .BinOp (.Name z pz) .Sub (.Constant (.int k) jj pk) pb] X.env = (false, eval a X.env) :: starEach [.BinOp (.Name z pz) .Sub (.Constant (.int k) jj pk) pb] X.env := by rfl)
    (he2 : starEach [.BinOp (.Name z pz) .Sub (.Constant (.int k) jj pk) pb] X.env = (false, eval (.BinOp (.Name z pz) .Sub (.Constant (.int k) jj pk) pb) X.env) :: starEach [] X.env := by rfl)
    (hs : swapsWithSole [.Tuple [.Name x px, .Name y py] kt pt] (.Tuple [a, .BinOp (.Name z pz) .Sub (.Constant (.int k) jj pk) pb] k2 pt2) pos.line X.env = pure false := by rfl) : GS X (.Assign [.Tuple [.Name x px, .Name y py] kt pt] (.Tuple [a, .BinOp (.Name z pz) .Sub (.Constant (.int k) jj pk) pb] k2 pt2) pos) n1 (sParFS i j kb k mf) :=
  ps_imp (ps_par hc hN hi hj hij hx hy (pa_cons ha (pa_cons (pe_op op_sub (pe_var hk hv hd hcd) pe_int) pa_nil he2) he) hw hs) fun D σ H h => by
  obtain ⟨W, B, G0, H0, G, env, E, R, hm, q⟩ := h
  refine ⟨W, B, G0, H0, G, env, _, R, hm, fun xs e1 p G1 H1 p1 s1 R1 f1 => ?_⟩
  split at p1
  · obtain ⟨v, ev, dv⟩ := R1.get_d (by assumption)
    cases dp_int dv
    exact ⟨_, ev, _, _, rfl, rfl, _, _, rfl, q.nx _ _ _ _ p1 s1 ((R1.set_own f1).set_d (.int _))⟩
  · exact p1.elim
end DL
namespace DL
open PySem PySem.Spec PyProof.Rows L2
theorem mif_by {t : MT} {a b : ME} {env : DEnv} {Pd : D → DEnv → Prop} (k : Bool) (ht : ∀ Pc : Bool → DEnv → Prop, Pc k env → t env Pc) (h1 : k = true → a env Pd) (h2 : k = false → b env Pd) : mIf t a b env Pd := by
  refine ht _ ?_
  cases k with
  | true => exact h1 rfl
  | false => exact h2 rfl
/-- an if by its truth -/
theorem if_by {t : MT} {a rest : MS} {E : DEnds} {env : DEnv} (b : Bool) (ht : ∀ Pc : Bool → DEnv → Prop, Pc b env → t env Pc) (h1 : b = true → a { E with nx := rest E } env) (h2 : b = false → rest E env) : sSeq (sIf t a sNext) rest E env := by
  refine ht _ ?_
  cases b with
  | true => exact h1 rfl
  | false => exact h2 rfl
end DL
namespace DL
open PySem PySem.Spec PyProof.Rows L2
/-! ### str of an int or a text; a loop by an invariant -/
def dStrX : List D → (D → Prop) → Prop
  | [.int i], P => i.natAbs.log2 < 1920 ∧ P (.str (toString i))
  | [.str z], P => P (.str z)
  | _, _ => False
theorem cd_strX {X : Cx} : CallR X (.type "str") (rDC X.K dStrX) := by
  intro pins s σ H xs us Q I r h
  obtain ⟨G, ds, P, sG, da, hf, q⟩ := h
  unfold dStrX at hf
  split at hf
  · obtain ⟨v, rfl, d⟩ := all1 da
    cases dp_int d
    exact call_str_int pins s σ H _ us Q I r ⟨_, rfl, hf.1, q _ _ G H hf.2 (Grow.refl sG) (.str _)⟩
  · obtain ⟨v, rfl, d⟩ := all1 da
    cases dp_str d
    obtain ⟨u, rfl, t, rfl⟩ := vals1 r
    exact PySem.P.str_of_str ⟨.str _, H, I, ⟨t, rfl⟩, q _ _ G H hf (Grow.refl sG) (.str _)⟩
  · exact hf.elim
theorem sfor_by {g : MG} {b : MS} {E : DEnds} {xs : List D} {env : DEnv} (I : Nat → DEnv → Prop) (h0 : I 0 env)
    (hs : ∀ (i : Nat) (x : D) (env : DEnv) (N : DEnv → Prop), xs[i]? = some x → I i env → (∀ e, I (i + 1) e → N e) → g x env fun e1 => b { nx := N, rt := E.rt, bk := E.nx, ct := N } e1)
    (hd : ∀ env, I xs.length env → E.nx env) : sForL g b xs E env := by
  have key : ∀ (ys : List D) (k : Nat) (env : DEnv), xs.drop k = ys → k + ys.length = xs.length → I k env → sForL g b ys E env := by
    intro ys
    induction ys with
    | nil =>
      intro k env _ hl hI
      have e : k = xs.length := by simpa using hl
      subst e
      exact hd env hI
    | cons y r ih =>
      intro k env hk hl hI
      have hx : xs[k]? = some y := by
        have := congrArg (fun l => l[0]?) hk
        simpa using this
      have hr : xs.drop (k + 1) = r := by
        have := congrArg (fun l => l.drop 1) hk
        simpa using this
      rw [List.length_cons] at hl
      exact hs k y env _ hx hI fun e z => ih (k + 1) e hr (by omega) z
  exact key xs 0 env rfl (by simp) h0
theorem cut_1 (x : D) (xs : List D) : cutD (x :: xs) (some 1) none = xs := by
  unfold cutD
  have e1 : HT.sIx (x :: xs).length 0 (some 1) = 1 := by
    unfold HT.sIx
    simp
  have e2 : HT.sIx (x :: xs).length (x :: xs).length none = (x :: xs).length := rfl
  rw [e1, e2, List.drop_one, List.tail_cons, List.length_cons, Nat.add_sub_cancel, List.take_length]
end DL
namespace DL
open PySem PySem.Spec PyProof.Rows L2
/-! ### a loop whose items are read below, its body at the level of data -/
section
variable {X : Cx} {tg iter : Expr} {body : List Stmt} {mg : MG} {ms : MS} {pos : Pos} {vs : List Nat} {nb : Nat} {wi : TI}
theorem ps_forI (c : Nat) (ds : List D) {J : It} (hit : ∀ G, ItD X.K G J ds) (hp : PassesOwn (model X.prog X.w) X.A X.env X.xe) (hc : X.calm = true) (hi : PI X tg iter wi) (hg : GG X tg vs mg) (hb : GSs X body nb ms)
    (hs : ∀ x, foldedSetIterable iter X.env x = pure x := by intro _; rfl) : PS X (.For tg iter body [] pos) (fun D σ H => (∀ R : It → Hp → Prop, R J H → wi σ H R) ∧ ds.length * nb ≤ c ∧ tS X.K c (sForL mg ms ds) D σ H) := ps_imp (ps_for hp hc hi hg hb hs) fun D σ H h => by
  obtain ⟨hw, cost, W, B, G0, H0, G, env, E, R1, p1, q⟩ := h
  refine hw _ ?_
  have it := hit G
  refine ⟨fun i m σ' H' => m = ds.length - i ∧ i ≤ ds.length ∧ ∃ G' e', Same G G' ∧ Rel X.K W (B + (ds.length - i) * nb) G0 H0 G' e' σ' H' ∧ sForL mg ms (ds.drop i) E e', ⟨ds.length, rfl, Nat.zero_le _, G, env, Same.refl _, R1.le (by rw [Nat.sub_zero]; omega), p1⟩, ?_⟩
  rintro i m σ' H' ⟨rfl, hi, G', e', s', R', p'⟩
  by_cases hlt : i < ds.length
  · have hx : ds[i]? = some ds[i] := List.getElem?_eq_getElem hlt
    have hd : ds.drop i = ds[i] :: ds.drop (i + 1) := List.drop_eq_getElem_cons hlt
    obtain ⟨hgo, hy⟩ := (it G' H' s' R'.pub i).1 _ hx
    rw [hd] at p'
    rw [turn_cost hlt] at R'
    refine .inr ⟨hgo, fun σ2 H2 => ∃ G2 e2, Same G G2 ∧ Rel X.K W (B + (ds.length - (i + 1)) * nb) G0 H0 G2 e2 σ2 H2 ∧ sForL mg ms (ds.drop (i + 1)) E e2, fun σ2 H2 hN => ⟨ds.length - (i + 1), by omega, rfl, hlt, hN⟩, fun v H2 y => ?_⟩
    obtain ⟨G2, g2, d2⟩ := hy v H2 y
    refine ⟨W, _, G0, H0, G2, e', _, _, R'.grow g2, d2, p', fun e3 σ3 G3 H3 p3 s3 R3 _ _ => ?_⟩
    have sG : Same G G3 := s'.trans (g2.eg.trans s3)
    refine ⟨W, B + (ds.length - (i + 1)) * nb, G0, H0, G3, e3, _, R3.le (by omega), p3, ⟨fun e4 σ4 G4 H4 p4 s4 R4 => ⟨G4, e4, sG.trans s4, R4, p4⟩, fun x e4 σ4 v G4 H4 p4 s4 R4 => q.rt x e4 σ4 v G4 H4 p4 (sG.trans s4) (R4.le (by omega)), fun e4 σ4 G4 H4 p4 s4 R4 => q.nx e4 σ4 G4 H4 p4 (sG.trans s4) (R4.le (by omega)), fun e4 σ4 G4 H4 p4 s4 R4 => ⟨G4, e4, sG.trans s4, R4, p4⟩⟩⟩
  · have e : i = ds.length := by omega
    subst e
    rw [List.drop_length] at p'
    exact .inl ⟨(it G' H' s' R'.pub _).2 (Nat.le_refl _), q.nx e' σ' G' H' p' s' (R'.le (by omega))⟩
end
end DL
namespace DL
open PySem PySem.Spec PyProof.Rows L2
/-- a method as it stands behind the top -/
structure DfM (K : PySem.W.Frag) (C : Addr) (m qual : Str) (st : Stmt) : Prop where
  ex : ∃ f fd, PySem.W.findIn K (.ref C) m = some (some (.ref f)) ∧ PySem.W.isFn K (.ref f) = true ∧ Fun K m qual st f fd
theorem dfm_mk {K : PySem.W.Frag} {C : Addr} {m qual : Str} {st : Stmt} {f : Addr} {oc : Value} {od an : Option Addr} {sl : Array (Option Value)} {kV doc pm cd ct : Value} (a : PySem.W.findIn K (.ref C) m = some (some (.ref f))) (i : PySem.W.isFn K (.ref f) = true)
    (l : K.lookup f = some ⟨oc, od, .func (PySem.W.fnOf m qual (defArgs st) (defBody st) (defScope st) .none kV doc pm an cd ct), sl⟩) (c : PySem.W.codeIn K cd qual = true) (k : PySem.W.keepIn K (.ref f) = true) : DfM K C m qual st := ⟨f, _, a, i, fun_mk l c k⟩
/-- what stands of a class -/
structure DfC (K : PySem.W.Frag) (x : Str) (C : Addr) : Prop where
  at_ : PySem.W.nsIn K mainGlobals x = some (some (.ref C))
  cl : Cls K C
  mks : PySem.W.makesIn K C = true
  kp : PySem.W.keepIn K (.ref C) = true
section
variable {P : Program} {w : World} {K : PySem.W.Frag} {h : Heap} {mg : Str → Option Value} {base : Heap} {C : Addr}
theorem mth_mk {m qual : Str} {st : Stmt} {k c : Nat} {ps : List Str} {sp : SpM} (d : DfM K C m qual st)
    (hb : ∀ (kV doc pm : Value) (an : Option Addr) (cdv ct : Value) (us : List Value), us.length = ps.length → bindArgs (PySem.W.fnOf m qual (defArgs st) (defBody st) (defScope st) .none kV doc pm an cdv ct) ⟨us, []⟩ = pure (ps.zip us))
    (hF : ∀ f fd, Fun K m qual st f fd → FnG P w K mg base CX0 k f fd ps (spDM K c sp)) : MthM P w K mg base C m k ps c sp := by
  obtain ⟨f, fd, a, i, F⟩ := d.ex
  exact ⟨f, fd, hF f fd F, ⟨a, i, F.kp⟩, F.binds hb⟩
theorem mkm_mk {x qual : Str} {st : Stmt} {k c : Nat} {ps : List Str} {sp : SpM} (X : K.In h) (G : h.Ns mainGlobals mg) (D : DfC K x C) (d : DfM K C "__init__" qual st)
    (hb : ∀ (kV doc pm : Value) (an : Option Addr) (cdv ct : Value) (us : List Value), us.length = ps.length → bindArgs (PySem.W.fnOf "__init__" qual (defArgs st) (defBody st) (defScope st) .none kV doc pm an cdv ct) ⟨us, []⟩ = pure (ps.zip us))
    (hF : ∀ f fd, Fun K "__init__" qual st f fd → FnG P w K mg base CX0 k f fd ps (spDM K c sp)) : MkM P w K mg base x C k ps c sp := by
  obtain ⟨f, fd, a, i, F⟩ := d.ex
  exact ⟨f, fd, hF f fd F, ⟨D.mks, a, i, D.kp⟩, F.binds hb, PySem.W.mg_of X G D.at_⟩
end
end DL
namespace DL
open PySem PySem.Spec PyProof.Rows L2
/-! ### a star among the targets, at the level of data -/
/-- what the targets hold, the i-th of n with the rest -/
def starD (i n : Nat) (xs : List D) : List D := xs.take i ++ [.list ((xs.drop i).take (xs.length + 1 - n))] ++ (xs.drop i).drop (xs.length + 1 - n)
def gStarX (i n : Nat) (m : MGs) (xs : List D) (env : DEnv) (P : DEnv → Prop) : Prop := i < n ∧ n ≤ xs.length + 1 ∧ xs.length ≤ 16384 ∧ m (starD i n xs) env P
def gStarTp (i n : Nat) (m : MGs) : MG := fun x env P => match x with
  | .tuple xs => gStarX i n m xs env P
  | _ => False
def gStarLs (i n : Nat) (m : MGs) : MG := fun x env P => match x with
  | .list xs => gStarX i n m xs env P
  | _ => False
section
variable {X : Cx} {e : Expr} {es : List Expr} {pos : Pos} {vs : List Nat} {kk n i : Nat}
theorem star_ok {K : PySem.W.Frag} {W : Wd} {B : Nat} {G0 H0 G H : Hp} {env : DEnv} {σ : L2.St} {us : List V} {xs : List D} {m : MGs} {P : DEnv → Prop} {Q : L2.St → Hp → Prop} (R : Rel K W B G0 H0 G env σ H) (h2 : DrAll K G us xs) (hm : gStarX i n m xs env P)
    (q : ∀ env' σ' G' H', P env' → Same G G' → Rel K W B G0 H0 G' env' σ' H' → wipe σ' vs = wipe σ vs → wipeE env' vs = wipeE env vs → Q σ' H') :
    i < n ∧ n ≤ us.length + 1 ∧ us.length ≤ 16384 ∧ ∀ p, H p = none → tGs K vs m (starred i n us p) σ (upd H p (.lst (starMid i n us))) Q := by
  obtain ⟨a1, a2, a3, hm⟩ := hm
  rw [dpAll_len h2]
  refine ⟨a1, a2, a3, fun p hp => ?_⟩
  have l := dpAll_len h2
  have g : Grow G H (upd G p (.lst (starMid i n us))) (upd H p (.lst (starMid i n us))) := Grow.new1 R.pub hp
  have mid : DrAll K G (starMid i n us) ((xs.drop i).take (xs.length + 1 - n)) := by
    unfold starMid
    rw [l]
    exact dpAll_take _ (dpAll_drop i h2)
  have d : DrAll K (upd G p (.lst (starMid i n us))) (starred i n us p) (starD i n xs) := by
    unfold starred starD
    rw [l]
    exact dpAll_app (dpAll_app (dpAll_same g.eg (dpAll_take i h2)) (dpAll_one (.lst upd_same (dpAll_same g.eg mid)))) (dpAll_same g.eg (dpAll_drop _ (dpAll_drop i h2)))
  exact ⟨W, B, G0, H0, _, env, _, P, R.grow g, d, hm, fun e' σ' G' H' p' s' R' w1 w2 => q e' σ' G' H' p' (g.eg.trans s') R' w1 w2⟩
theorem gg_starT {m : MGs} (hc : X.calm = true) (h : PGs X es (tGs X.K vs m)) (hn : (assignEach es X.env).length = n := by rfl) (hst : (assignEach es X.env).findIdx? (·.1) = some i := by rfl) : GG X (.Tuple es kk pos) vs (gStarTp i n m) :=
  pg_imp (pg_starT hc h hn hst) fun v σ H Q h => by
  obtain ⟨W, B, G0, H0, G, env, x, P, R, d, hm, q⟩ := h
  cases x with
  | tuple xs =>
    obtain ⟨a, us, rfl, h1, h2⟩ := dp_tup d
    obtain ⟨b1, b2, b3, b4⟩ := star_ok R h2 hm q
    exact ⟨a, us, rfl, same_sqT R.pub h1, b1, b2, b3, b4⟩
  | _ => exact hm.elim
theorem gg_starL {m : MGs} (hc : X.calm = true) (h : PGs X es (tGs X.K vs m)) (hn : (assignEach es X.env).length = n := by rfl) (hst : (assignEach es X.env).findIdx? (·.1) = some i := by rfl) : GG X (.Tuple es kk pos) vs (gStarLs i n m) :=
  pg_imp (pg_starL hc h hn hst) fun v σ H Q h => by
  obtain ⟨W, B, G0, H0, G, env, x, P, R, d, hm, q⟩ := h
  cases x with
  | list xs =>
    obtain ⟨a, us, rfl, h1, h2⟩ := dp_lst d
    obtain ⟨b1, b2, b3, b4⟩ := star_ok R h2 hm q
    exact ⟨a, us, rfl, SqL.of (R.pub _ _ h1), b1, b2, b3, b4⟩
  | _ => exact hm.elim
/-- the star itself among them -/
theorem ggs_star {j : Nat} {x : Str} {m : MGs} {ps px : Pos} (hN : X.N.Nodup) (hi : X.N[j]? = some x) (hx : Loc X.env.scope x) (hv : j ∈ vs) (hr : PGs X es (tGs X.K vs m)) (hf : X.fn x = true ∨ X.env.scope.names.lookup x = some .local := by first | exact .inl rfl | exact .inr rfl | assumption)
    (hs : (assignEach (.Starred (.Name x px) ps :: es) X.env).map (·.2) = assign (.Name x px) X.env :: (assignEach es X.env).map (·.2) := by rfl) : PGs X (.Starred (.Name x px) ps :: es) (tGs X.K vs (gsCons j m)) := ⟨fun pins s σ H us ws Q I r h => by
  refine (pgs_star (pg_name hN hi hx hf) hr hs).run pins s σ H us ws Q I r ?_
  obtain ⟨W, B, G0, H0, G, env, xs, P, R, d, hm, q⟩ := h
  cases d with
  | nil => exact hm.elim
  | cons d1 d2 =>
    refine ⟨_, _, rfl, W, B, G0, H0, G, _, _, P, R.set_d d1, d2, hm, fun e2 σ2 G2 H2 p2 s2 R2 w2 w3 => ?_⟩
    exact q _ _ _ _ p2 s2 R2 (w2.trans (wipe_set hv)) (w3.trans (wipeE_set hv))⟩
end
end DL
namespace DL
open PySem PySem.Spec PyProof.Rows L2
/-! ### a list comprehension of two clauses -/
theorem lc_loop {K : PySem.W.Frag} {J : It} {mg : MG} {mt : MT} {me : ME} {vs : List Nat} {nt ne : Nat} {σ : L2.St} {W : Wd} {B : Nat} {G0 H0 G1 H1 : Hp} {e1 : DEnv} {A : Addr} {ds : List D} {av1 : List V} {acc1 : List D} {Pc : List D → Prop}
    (R1 : Rel K W (B + ds.length * (nt + ne)) G0 H0 G1 e1 σ H1) (it : ItD K G1 J ds) (no : noOwn e1 vs) (hA1 : H1 A = some (.lst av1)) (f1 : G1 A = none) (f2 : H0 A = none) (f3 : ¬ W.mu A) (f4 : ∀ (i : Nat) l w c, e1[i]? = some (.mo w c) → σ[i]? = some (some (.ref l)) → l ≠ A)
    (dA1 : DrAll K G1 av1 acc1) (p1 : mLcL mg mt me vs ds acc1 e1 Pc) {Fin : Hp → Prop} (q : ∀ ys av G' H', Pc ys → Same G1 G' → Rel K W B G0 H0 G' e1 σ H' → H' A = some (.lst av) → G' A = none → DrAll K G' av ys → Fin H') :
    ∃ Wm : Nat → Nat → Hp → Prop, (∃ m, Wm 0 m H1) ∧ ∀ i m H, Wm i m H → (J.stop i H ∧ Fin H) ∨ (J.go i H ∧ ∃ Nx : Hp → Prop, (∀ H', Nx H' → ∃ m', m' < m ∧ Wm (i + 1) m' H') ∧ ∀ x H', J.yld i H x H' → tG K vs mg x (wipe σ vs) H' fun σ2 H2 => wipe σ2 vs = wipe σ vs ∧ tDT K nt mt σ2 H2 fun b H3 =>
      if b = true then tD K ne me σ2 H3 fun y H4 => ∃ acc, H4 A = some (.lst acc) ∧ acc.length < sizeLine ∧ Nx (upd H4 A (.lst (acc ++ [y]))) else Nx H3) := by
  refine ⟨fun i m H' => m = ds.length - i ∧ i ≤ ds.length ∧ ∃ G' av acc, Same G1 G' ∧ Rel K W (B + (ds.length - i) * (nt + ne)) G0 H0 G' e1 σ H' ∧ H' A = some (.lst av) ∧ G' A = none ∧ (∀ (i : Nat) l w c, e1[i]? = some (.mo w c) → σ[i]? = some (some (.ref l)) → l ≠ A) ∧ DrAll K G' av acc ∧ mLcL mg mt me vs (ds.drop i) acc e1 Pc,
    ⟨ds.length, rfl, Nat.zero_le _, G1, av1, acc1, Same.refl _, R1.le (by rw [Nat.sub_zero]; exact Nat.le_refl _), hA1, f1, f4, dA1, p1⟩, ?_⟩
  rintro i m H' ⟨rfl, hi, G', av, acc, s', R', hA', gA', oA', dA', p'⟩
  by_cases hlt : i < ds.length
  · have hx : ds[i]? = some ds[i] := List.getElem?_eq_getElem hlt
    have hd : ds.drop i = ds[i] :: ds.drop (i + 1) := List.drop_eq_getElem_cons hlt
    obtain ⟨hgo, hy⟩ := (it G' H' s' R'.pub i).1 _ hx
    rw [hd] at p'
    rw [turn_cost hlt] at R'
    refine .inr ⟨hgo, fun H2 => ∃ G' av acc, Same G1 G' ∧ Rel K W (B + (ds.length - (i + 1)) * (nt + ne)) G0 H0 G' e1 σ H2 ∧ H2 A = some (.lst av) ∧ G' A = none ∧ (∀ (i : Nat) l w c, e1[i]? = some (.mo w c) → σ[i]? = some (some (.ref l)) → l ≠ A) ∧ DrAll K G' av acc ∧ mLcL mg mt me vs (ds.drop (i + 1)) acc e1 Pc, fun H2 hN => ⟨ds.length - (i + 1), by omega, rfl, hlt, hN⟩, fun v H2 y => ?_⟩
    obtain ⟨G2, g2, d2⟩ := hy v H2 y
    have R3 := R'.grow g2
    have hA2 : H2 A = some (.lst av) := g2.eh _ _ hA'
    have gA2 : G2 A = none := by
      cases z : G2 A with
      | none => rfl
      | some o =>
        have := g2.new A o z gA'
        rw [hA'] at this
        cases this
    have hg0 : G0 A = none := R3.g0.free gA2
    have R4 := (R3.guard hA2 gA2 oA').wipe vs
    refine ⟨W, _, G0, upd H0 A (.lst av), G2, _, _, _, R4, d2, p', fun e3 σ3 G3 H3 p3 s3 R5 w1 w2 => ⟨?_, ?_⟩⟩
    · have idem : ∀ (τ : L2.St), wipe (wipe τ vs) vs = wipe τ vs := fun τ => by
        apply List.ext_getElem?
        intro n
        by_cases hn : n ∈ vs
        · have l1 : (wipe (wipe τ vs) vs)[n]? = (wipe τ vs)[n]? := by
            cases z1 : (wipe (wipe τ vs) vs)[n]? with
            | none =>
              cases z2 : (wipe τ vs)[n]? with
              | none => rfl
              | some y =>
                have b1 := (List.getElem?_eq_some_iff.mp z2).1
                rw [List.getElem?_eq_none_iff, wipe_length] at z1
                omega
            | some y =>
              cases y with
              | some u => exact absurd hn (wipe_some z1).2
              | none =>
                cases z2 : (wipe τ vs)[n]? with
                | none =>
                  have b1 := (List.getElem?_eq_some_iff.mp z1).1
                  rw [List.getElem?_eq_none_iff] at z2
                  rw [wipe_length] at b1
                  omega
                | some y2 =>
                  cases y2 with
                  | none => rfl
                  | some u => exact absurd hn (wipe_some z2).2
          exact l1
        · rw [wipe_out' hn]
      rw [w1, idem]
    · have g3 : Same G' G3 := g2.eg.trans s3
      refine ⟨W, B + (ds.length - (i + 1)) * (nt + ne) + ne, G0, upd H0 A (.lst av), G3, e3, _, R5.le (by omega), p3, fun b e4 G4 H4 p4 s4 R6 => ?_⟩
      obtain ⟨rfl, p4⟩ := p4
      have sT : Same G1 G4 := (s'.trans g3).trans s4
      have idemE : ∀ (τ : DEnv), wipeE (wipeE τ vs) vs = wipeE τ vs := fun τ => by
        apply List.ext_getElem?
        intro n
        by_cases hn : n ∈ vs
        · cases z1 : (wipeE (wipeE τ vs) vs)[n]? with
          | none =>
            rw [List.getElem?_eq_none_iff, wipeE_length] at z1
            exact (List.getElem?_eq_none_iff.mpr z1).symm
          | some y =>
            have b1 := (List.getElem?_eq_some_iff.mp z1).1
            rw [wipeE_length] at b1
            rw [List.getElem?_eq_getElem b1, wipeE_in hn z1, wipeE_in hn (List.getElem?_eq_getElem b1)]
        · rw [wipeE_out hn]
      have back : ∀ (B5 : Nat) (G5 H5 : Hp), Same G3 G5 → Rel K W B5 G0 (upd H0 A (.lst av)) G5 e4 σ3 H5 → Rel K W B5 G0 H0 G5 e1 σ H5 ∧ H5 A = some (.lst av) ∧ G5 A = none ∧ (∀ (i : Nat) l w c, e1[i]? = some (.mo w c) → σ[i]? = some (some (.ref l)) → l ≠ A) := fun B5 G5 H5 s5 R7 => by
        have R8 := R7.wipe vs
        have idem' : wipe (wipe σ vs) vs = wipe σ vs := by
          have := w1
          apply List.ext_getElem?
          intro n
          by_cases hn : n ∈ vs
          · cases z1 : (wipe (wipe σ vs) vs)[n]? with
            | none =>
              rw [List.getElem?_eq_none_iff, wipe_length] at z1
              exact (List.getElem?_eq_none_iff.mpr z1).symm
            | some y =>
              have b1 := (List.getElem?_eq_some_iff.mp z1).1
              rw [wipe_length] at b1
              rw [List.getElem?_eq_getElem b1]
              cases y with
              | some u => exact absurd hn (wipe_some z1).2
              | none =>
                cases z2 : (wipe σ vs)[n] with
                | none => rfl
                | some u => exact absurd hn (wipe_some ((List.getElem?_eq_getElem b1).trans (congrArg some z2))).2
          · rw [wipe_out' hn]
        rw [w1, idem', w2, idemE] at R8
        obtain ⟨R9, u1, u2, u3⟩ := R8.unguard f3 hg0 f2
        exact ⟨R3.unwipe no (s3.trans s5) R9, u1, u2, oA'⟩
      cases b with
      | true =>
        refine iteT ⟨W, B + (ds.length - (i + 1)) * (nt + ne), G0, upd H0 A (.lst av), G4, e4, _, R6, p4, fun y e5 u G5 H5 p5 s5 R7 d5 => ?_⟩
        obtain ⟨rfl, hl, p5⟩ := p5
        obtain ⟨Rb, b1, b2, b3⟩ := back _ G5 H5 (s4.trans s5) R7
        refine ⟨av, b1, by rw [dpAll_len dA']; exact hl, G5, av ++ [u], acc ++ [y], sT.trans s5, ?_, upd_same, b2, b3, dpAll_app (dpAll_same ((g3.trans s4).trans s5) dA') (dpAll_one d5), p5⟩
        refine { g0 := Rb.g0, pub := fun a o e => ?_, gm := Rb.gm, inv := W.loc _ H5 _ (fun a m => ?_) Rb.inv, fr := fun a o e m => ?_, pn := Rb.pn, len := Rb.len, slot := fun j e s h1 h2 => ?_, dis := Rb.dis }
        · have ne : a ≠ A := fun z => by
            subst z
            rw [b2] at e
            cases e
          rw [upd_ne ne]
          exact Rb.pub a o e
        · rw [upd_ne fun z => by subst z; exact f3 m]
        · have ne : a ≠ A := fun z => by
            subst z
            rw [f2] at e
            cases e
          rw [upd_ne ne]
          exact Rb.fr a o e m
        · have q := Rb.slot j e s h1 h2
          cases e with
          | mo w2 c2 =>
            obtain ⟨l2, ee, n2, o2, q1⟩ := q
            refine ⟨l2, ee, n2, o2, scok_later (Same.refl _) (fun u hu => ?_) q1⟩
            subst ee
            rw [upd_ne (b3 j l2 w2 c2 h1 h2)]
            exact hu
          | un => trivial
          | d x => exact q
          | hd => exact q
          | «at» _ => trivial
      | false =>
        obtain ⟨Rb, b1, b2, b3⟩ := back _ G4 H4 s4 (R6.le (Nat.le_add_right _ _))
        exact iteF ⟨G4, av, acc, sT, Rb, b1, b2, b3, dpAll_same (g3.trans s4) dA', p4⟩
  · have e : i = ds.length := by omega
    subst e
    rw [List.drop_length] at p'
    exact .inl ⟨(it G' H' s' R'.pub _).2 (Nat.le_refl _), q _ av G' H' p' s' (R'.le (by omega)) hA' gA' dA'⟩

/-- the inner clause is walked by mLcL -/
def mLc2L (nb1 c1 : Nat) (g : MG) (tt : MT) (i1 : MI) (g1 : MG) (t1 : MT) (te : ME) (vs vs1 : List Nat) : List D → List D → DEnv → (List D → Prop) → Prop
  | [], acc, _, P => P acc
  | x :: xs, acc, env, P => g x (wipeE env vs) fun e1 => tt e1 fun b e2 => e2 = e1 ∧ match b with
    | true => i1 e2 fun ds e3 => e3 = e2 ∧ noOwn e3 vs1 ∧ ds.length * nb1 ≤ c1 ∧ mLcL g1 t1 te vs1 ds acc e3 fun acc' => mLc2L nb1 c1 g tt i1 g1 t1 te vs vs1 xs acc' env P
    | false => mLc2L nb1 c1 g tt i1 g1 t1 te vs vs1 xs acc env P
def mLc2C (nb c nb1 c1 : Nat) (i : MI) (g : MG) (tt : MT) (i1 : MI) (g1 : MG) (t1 : MT) (te : ME) (vs vs1 : List Nat) : MF := fun env P => i env fun ds e1 => ds.length * nb ≤ c ∧ noOwn e1 vs ∧ mLc2L nb1 c1 g tt i1 g1 t1 te vs vs1 ds [] e1 fun ys => P ys e1
theorem lc2_ok {K : PySem.W.Frag} {mi mi1 : MI} {mg mg1 : MG} {mt mt1 : MT} {me : ME} {vs vs1 : List Nat} {ni nt ni1 nt1 ne c c1 : Nat} {σ : L2.St} {H : Hp} {Q : VK} (h : tF K (ni + c) (mLc2C (nt + (ni1 + c1)) c (nt1 + ne) c1 mi mg mt mi1 mg1 mt1 me vs vs1) σ H Q) : tLc2 (tI K ni mi) (tG K vs mg) (tDT K nt mt) (tI K ni1 mi1) (tG K vs1 mg1) (tDT K nt1 mt1) (tD K ne me) vs vs1 σ H Q := by
  obtain ⟨W, B, G0, H0, G, env, P, R, hm, q⟩ := h
  refine ⟨W, B + c, G0, H0, G, env, _, R.le (by omega), hm, fun ds e1 J G1 H1 p1 s1 R1 it A hA => ?_⟩
  obtain ⟨cost, no, p1⟩ := p1
  obtain ⟨R2, f1, f2, f3, f4⟩ := R1.fresh (o := .lst []) hA
  refine ⟨fun i m H' => m = ds.length - i ∧ i ≤ ds.length ∧ ∃ G' av acc, Same G1 G' ∧ Rel K W (B + (ds.length - i) * (nt + (ni1 + c1))) G0 H0 G' e1 σ H' ∧ H' A = some (.lst av) ∧ G' A = none ∧ (∀ (i : Nat) l w c, e1[i]? = some (.mo w c) → σ[i]? = some (some (.ref l)) → l ≠ A) ∧ DrAll K G' av acc ∧ mLc2L (nt1 + ne) c1 mg mt mi1 mg1 mt1 me vs vs1 (ds.drop i) acc e1 (fun ys => P ys e1),
    ⟨ds.length, rfl, Nat.zero_le _, G1, [], [], Same.refl _, R2.le (by rw [Nat.sub_zero]; omega), upd_same, f1, f4, .nil, p1⟩, ?_⟩
  rintro i m H' ⟨rfl, hi, G', av, acc, s', R', hA', gA', oA', dA', p'⟩
  by_cases hlt : i < ds.length
  · have hx : ds[i]? = some ds[i] := List.getElem?_eq_getElem hlt
    have hd : ds.drop i = ds[i] :: ds.drop (i + 1) := List.drop_eq_getElem_cons hlt
    obtain ⟨hgo, hy⟩ := (it G' H' s' R'.pub i).1 _ hx
    rw [hd] at p'
    rw [turn_cost hlt] at R'
    refine .inr ⟨hgo, fun H2 => ∃ G' av acc, Same G1 G' ∧ Rel K W (B + (ds.length - (i + 1)) * (nt + (ni1 + c1))) G0 H0 G' e1 σ H2 ∧ H2 A = some (.lst av) ∧ G' A = none ∧ (∀ (i : Nat) l w c, e1[i]? = some (.mo w c) → σ[i]? = some (some (.ref l)) → l ≠ A) ∧ DrAll K G' av acc ∧ mLc2L (nt1 + ne) c1 mg mt mi1 mg1 mt1 me vs vs1 (ds.drop (i + 1)) acc e1 (fun ys => P ys e1), fun H2 hN => ⟨ds.length - (i + 1), by omega, rfl, hlt, hN⟩, fun v H2 y => ?_⟩
    obtain ⟨G2, g2, d2⟩ := hy v H2 y
    have R3 := R'.grow g2
    have hA2 : H2 A = some (.lst av) := g2.eh _ _ hA'
    have gA2 : G2 A = none := by
      cases z : G2 A with
      | none => rfl
      | some o =>
        have := g2.new A o z gA'
        rw [hA'] at this
        cases this
    have hg0 : G0 A = none := R3.g0.free gA2
    have R4 := (R3.guard hA2 gA2 oA').wipe vs
    refine ⟨W, _, G0, upd H0 A (.lst av), G2, _, _, _, R4, d2, p', fun e3 σ3 G3 H3 p3 s3 R5 w1 w2 => ⟨?_, ?_⟩⟩
    · have idem : ∀ (τ : L2.St), wipe (wipe τ vs) vs = wipe τ vs := fun τ => by
        apply List.ext_getElem?
        intro n
        by_cases hn : n ∈ vs
        · have l1 : (wipe (wipe τ vs) vs)[n]? = (wipe τ vs)[n]? := by
            cases z1 : (wipe (wipe τ vs) vs)[n]? with
            | none =>
              cases z2 : (wipe τ vs)[n]? with
              | none => rfl
              | some y =>
                have b1 := (List.getElem?_eq_some_iff.mp z2).1
                rw [List.getElem?_eq_none_iff, wipe_length] at z1
                omega
            | some y =>
              cases y with
              | some u => exact absurd hn (wipe_some z1).2
              | none =>
                cases z2 : (wipe τ vs)[n]? with
                | none =>
                  have b1 := (List.getElem?_eq_some_iff.mp z1).1
                  rw [List.getElem?_eq_none_iff] at z2
                  rw [wipe_length] at b1
                  omega
                | some y2 =>
                  cases y2 with
                  | none => rfl
                  | some u => exact absurd hn (wipe_some z2).2
          exact l1
        · rw [wipe_out' hn]
      rw [w1, idem]
    · have g3 : Same G' G3 := g2.eg.trans s3
      refine ⟨W, B + (ds.length - (i + 1)) * (nt + (ni1 + c1)) + (ni1 + c1), G0, upd H0 A (.lst av), G3, e3, _, R5.le (by omega), p3, fun b e4 G4 H4 p4 s4 R6 => ?_⟩
      obtain ⟨rfl, p4⟩ := p4
      have sT : Same G1 G4 := (s'.trans g3).trans s4
      have idemE : ∀ (τ : DEnv), wipeE (wipeE τ vs) vs = wipeE τ vs := fun τ => by
        apply List.ext_getElem?
        intro n
        by_cases hn : n ∈ vs
        · cases z1 : (wipeE (wipeE τ vs) vs)[n]? with
          | none =>
            rw [List.getElem?_eq_none_iff, wipeE_length] at z1
            exact (List.getElem?_eq_none_iff.mpr z1).symm
          | some y =>
            have b1 := (List.getElem?_eq_some_iff.mp z1).1
            rw [wipeE_length] at b1
            rw [List.getElem?_eq_getElem b1, wipeE_in hn z1, wipeE_in hn (List.getElem?_eq_getElem b1)]
        · rw [wipeE_out hn]
      have back : ∀ (B5 : Nat) (G5 H5 : Hp), Same G3 G5 → Rel K W B5 G0 (upd H0 A (.lst av)) G5 e4 σ3 H5 → Rel K W B5 G0 H0 G5 e1 σ H5 ∧ H5 A = some (.lst av) ∧ G5 A = none ∧ (∀ (i : Nat) l w c, e1[i]? = some (.mo w c) → σ[i]? = some (some (.ref l)) → l ≠ A) := fun B5 G5 H5 s5 R7 => by
        have R8 := R7.wipe vs
        have idem' : wipe (wipe σ vs) vs = wipe σ vs := by
          have := w1
          apply List.ext_getElem?
          intro n
          by_cases hn : n ∈ vs
          · cases z1 : (wipe (wipe σ vs) vs)[n]? with
            | none =>
              rw [List.getElem?_eq_none_iff, wipe_length] at z1
              exact (List.getElem?_eq_none_iff.mpr z1).symm
            | some y =>
              have b1 := (List.getElem?_eq_some_iff.mp z1).1
              rw [wipe_length] at b1
              rw [List.getElem?_eq_getElem b1]
              cases y with
              | some u => exact absurd hn (wipe_some z1).2
              | none =>
                cases z2 : (wipe σ vs)[n] with
                | none => rfl
                | some u => exact absurd hn (wipe_some ((List.getElem?_eq_getElem b1).trans (congrArg some z2))).2
          · rw [wipe_out' hn]
        rw [w1, idem', w2, idemE] at R8
        obtain ⟨R9, u1, u2, u3⟩ := R8.unguard f3 hg0 f2
        exact ⟨R3.unwipe no (s3.trans s5) R9, u1, u2, oA'⟩
      cases b with
      | true =>
        refine iteT ⟨W, B + (ds.length - (i + 1)) * (nt + (ni1 + c1)) + c1, G0, upd H0 A (.lst av), G4, e4, _, R6.le (by omega), p4, fun ds1 e5 J1 G5 H5 p5 s5 R7 it1 => ?_⟩
        obtain ⟨rfl, no1, cost1, p5⟩ := p5
        obtain ⟨R8, u1, u2, u3⟩ := R7.unguard f3 hg0 f2
        have cost2 : B + (ds.length - (i + 1)) * (nt + (ni1 + c1)) + ds1.length * (nt1 + ne) ≤ B + (ds.length - (i + 1)) * (nt + (ni1 + c1)) + c1 := Nat.add_le_add_left cost1 _
        refine lc_loop (B := B + (ds.length - (i + 1)) * (nt + (ni1 + c1))) (R8.le cost2) it1 no1 u1 u2 f2 f3 u3 (dpAll_same ((g3.trans s4).trans s5) dA') p5 (fun ys av2 G6 H6 p6 s6 R9 a1 a2 d6 => ?_)
        have R10 := R9.wipe vs
        rw [w1, wipe_idem, w2, idemE] at R10
        exact ⟨G6, av2, ys, (sT.trans s5).trans s6, R3.unwipe no (((s3.trans s4).trans s5).trans s6) R10, a1, a2, oA', d6, p6⟩
      | false =>
        obtain ⟨Rb, b1, b2, b3⟩ := back _ G4 H4 s4 (R6.le (Nat.le_add_right _ _))
        exact iteF ⟨G4, av, acc, sT, Rb, b1, b2, b3, dpAll_same (g3.trans s4) dA', p4⟩
  · have e : i = ds.length := by omega
    subst e
    rw [List.drop_length] at p'
    exact .inl ⟨(it G' H' s' R'.pub _).2 (Nat.le_refl _), q _ e1 A G' H' p' (s1.trans s') (R'.le (by omega)) ⟨av, hA', gA', f2, f3, oA', dA'⟩⟩
section
variable {X : Cx} {elt tg iter tg1 iter1 : Expr} {ifs ifs1 : List Expr} {scope : Scope} {own : List (Str × Nat)} {pos spos py : Pos} {mi mi1 : MI} {mg mg1 : MG} {mt mt1 : MT} {me : ME} {ni nt ni1 nt1 ne : Nat} {vs1 : List Nat}
theorem gf_lc2 (c c1 : Nat) (hc : X.calm = true) (hN : X.N.Nodup) (hi : GI X tg iter ni mi) (ok : BlkOk X.N X.env.scope scope own) (hv : ∀ i ∈ vs1, i ∈ own.map (·.2))
    (hg : ∀ (s : Shared) (H : Hp) (C : Addr) (cl : List (Str × Addr)) (fp : List Addr), GG (X.blk s H scope (compEnvC scope cl C X.env) fp) tg (own.map (·.2)) mg) (ht : ∀ (s : Shared) (H : Hp) (C : Addr) (cl : List (Str × Addr)) (fp : List Addr), GTs (X.blk s H scope (compEnvC scope cl C X.env) fp) ifs nt mt)
    (hi1 : ∀ (s : Shared) (H : Hp) (C : Addr) (cl : List (Str × Addr)) (fp : List Addr), GI (X.blk s H scope (compEnvC scope cl C X.env) fp) tg1 iter1 ni1 mi1)
    (hg1 : ∀ (s : Shared) (H : Hp) (C : Addr) (cl : List (Str × Addr)) (fp : List Addr), GG (X.blk s H scope (compEnvC scope cl C X.env) fp) tg1 vs1 mg1) (ht1 : ∀ (s : Shared) (H : Hp) (C : Addr) (cl : List (Str × Addr)) (fp : List Addr), GTs (X.blk s H scope (compEnvC scope cl C X.env) fp) ifs1 nt1 mt1)
    (he : ∀ (s : Shared) (H : Hp) (C : Addr) (cl : List (Str × Addr)) (fp : List Addr), GE (X.blk s H scope (compEnvC scope cl C X.env) fp) elt ne me) (hs : ∀ x, foldedSetIterable iter X.env x = pure x := by intro _; rfl) (hs1 : ∀ env x, foldedSetIterable iter1 env x = pure x := by intro _ _; rfl) :
    GF X (.ListComp elt [⟨tg, iter, ifs, 0⟩, ⟨tg1, iter1, ifs1, 0⟩] scope pos) (ni + c) (mLc2C (nt + (ni1 + c1)) c (nt1 + ne) c1 mi mg mt mi1 mg1 mt1 me (own.map (·.2)) vs1) :=
  pe_imp (pe_lc2 hc hN hi ok hv hg ht hi1 hg1 ht1 he hs hs1) fun σ H Q h => lc2_ok h
end
end DL
namespace DL
open PySem PySem.Spec PyProof.Rows L2
/-! ### a list unpacked into names; tame data: shown, compared -/
def gUn (n : Nat) (m : MGs) : MG := fun x env P => match x with
  | .list xs => xs.length = n ∧ m xs env P
  | _ => False
section
variable {X : Cx} {es : List Expr} {pos : Pos} {vs : List Nat}
theorem gg_unl {k : Nat} {m : MGs} {n : Nat} (hc : X.calm = true) (h : PGs X es (tGs X.K vs m))
    (hn : (assignEach es X.env).length = n := by rfl) (hst : (assignEach es X.env).findIdx? (·.1) = none := by rfl) : GG X (.Tuple es k pos) vs (gUn n m) :=
  pg_imp (pg_unl hc h hn hst) fun v σ H Q h => by
  obtain ⟨W, B, G0, H0, G, env, x, P, R, d, hm, q⟩ := h
  cases x with
  | list xs =>
    obtain ⟨a, us, rfl, h1, h2⟩ := dp_lst d
    exact ⟨a, us, rfl, SqL.of (R.pub _ _ h1), by rw [dpAll_len h2]; exact hm.1, W, B, G0, H0, G, env, xs, P, R, h2, hm.2, q⟩
  | _ => exact hm.elim
end
/-- a comprehension that takes over each item -/
theorem lcl_id {j : Nat} : ∀ (ds acc : List D) {env : DEnv} {P : List D → Prop}, j < env.length → acc.length + ds.length ≤ sizeLine → P (acc ++ ds) → mLcL (gNm j) mYes (mVar j) [j] ds acc env P
  | [], acc, env, P, _, _, h => by
    rw [List.append_nil] at h
    exact h
  | x :: xs, acc, env, P, hj, hl, h => by
    rw [List.length_cons] at hl
    refine ⟨rfl, ?_⟩
    show mVar j _ _
    unfold mVar
    rw [List.getElem?_set_self (by rw [wipeE_length]; exact hj)]
    refine ⟨rfl, by omega, ?_⟩
    refine lcl_id xs (acc ++ [x]) hj (by rw [List.length_append, List.length_singleton]; omega) ?_
    rw [List.append_assoc, List.singleton_append]
    exact h
mutual
/-- no dicts, numbers below 2 ^ 136, texts of at most 100 signs -/
def tame : D → Bool
  | .none => true
  | .bool _ => true
  | .int i => decide (i.natAbs < 2 ^ 136)
  | .str z => decide (z.cps.size ≤ 100) && z.cps.toList.all fun c => decide (c < 0x110000)
  | .list xs => tameA xs
  | .tuple xs => tameA xs
  | .dict _ => false
def tameA : List D → Bool
  | [] => true
  | x :: r => tame x && tameA r
end
mutual
theorem tame_mids : ∀ x : D, tame x = true → mids x = true
  | .none, _ => rfl
  | .bool _, _ => rfl
  | .int i, h => by rw [mids]; rw [tame] at h; exact h
  | .str z, h => by
    simp only [tame, mids, Bool.and_eq_true, decide_eq_true_eq, List.all_eq_true] at h ⊢
    exact ⟨h.1, fun c hc => Nat.lt_trans (h.2 c hc) (by decide)⟩
  | .list xs, h => by
    rw [mids]
    rw [tame] at h
    exact tameA_mids xs h
  | .tuple xs, h => by
    rw [mids]
    rw [tame] at h
    exact tameA_mids xs h
  | .dict _, h => by simp [tame] at h
theorem tameA_mids : ∀ xs : List D, tameA xs = true → midsA xs = true
  | [], _ => rfl
  | x :: r, h => by
    simp only [tameA, midsA, Bool.and_eq_true] at h ⊢
    exact ⟨tame_mids x h.1, tameA_mids r h.2⟩
end
mutual
theorem tame_lay : ∀ x : D, tame x = true → x.canLay0 = true ∧ noDict x = true
  | .none, _ => ⟨rfl, rfl⟩
  | .bool _, _ => ⟨rfl, rfl⟩
  | .int i, h => ⟨rfl, rfl⟩
  | .str z, h => by
    simp only [tame, Bool.and_eq_true, decide_eq_true_eq, List.all_eq_true] at h
    refine ⟨?_, rfl⟩
    simp only [PyData.canLay0, PyData.strOk, Array.all_eq_true', decide_eq_true_eq]
    exact fun c hc => h.2 c (Array.mem_toList_iff.mpr hc)
  | .list xs, h => by
    rw [tame] at h
    exact tameA_lay xs h
  | .tuple xs, h => by
    rw [tame] at h
    exact tameA_lay xs h
  | .dict _, h => by simp [tame] at h
theorem tameA_lay : ∀ xs : List D, tameA xs = true → PyData.canLayAll0 xs = true ∧ noDicts xs = true
  | [], _ => ⟨rfl, rfl⟩
  | x :: r, h => by
    simp only [tameA, Bool.and_eq_true] at h
    have h1 := tame_lay x h.1
    have h2 := tameA_lay r h.2
    exact ⟨by rw [PyData.canLayAll0, h1.1, h2.1]; rfl, by rw [noDicts, h1.2, h2.2]; rfl⟩
end
/-- tame, so deep at most, of so many parts and signs at most -/
def Bk (d m : Nat) (x : D) : Prop := tame x = true ∧ x.depth ≤ d ∧ x.bulk + 1 ≤ m
def BkA (d m : Nat) (xs : List D) : Prop := tameA xs = true ∧ PyData.depthAll xs ≤ d ∧ PyData.bulkAll xs ≤ m
theorem Bk.le {d m d' m' : Nat} {x : D} (h : Bk d m x) (hd : d ≤ d') (hm : m ≤ m') : Bk d' m' x := ⟨h.1, Nat.le_trans h.2.1 hd, Nat.le_trans h.2.2 hm⟩
theorem BkA.le {d m d' m' : Nat} {x : List D} (h : BkA d m x) (hd : d ≤ d') (hm : m ≤ m') : BkA d' m' x := ⟨h.1, Nat.le_trans h.2.1 hd, Nat.le_trans h.2.2 hm⟩
theorem BkA.up {d m d' : Nat} {x : List D} (h : BkA d m x) (hd : d ≤ d') : BkA d' m x := h.le hd (Nat.le_refl _)
theorem Bk.up {d m d' : Nat} {x : D} (h : Bk d m x) (hd : d ≤ d') : Bk d' m x := h.le hd (Nat.le_refl _)
theorem Bk.repr {d m : Nat} {x : D} (h : Bk d m x) (hd : d ≤ 60) (hm : m ≤ 300000) : x.showable = true ∧ x.depth ≤ 60 ∧ x.shown.length ≤ sizeLine := by
  obtain ⟨h1, h3, h4⟩ := mids_show x (tame_mids x h.1)
  have hs := PyData.shown_le_bulk 50 (by decide) x h3
  have n2 := h.2.2
  refine ⟨h1, Nat.le_trans h.2.1 hd, ?_⟩
  rw [sizeLine_eq]
  omega
theorem Bk.ok {d m : Nat} {x : D} (h : Bk d m x) (hd : d ≤ 64) : okEq x = true := by
  have := tame_lay x h.1
  unfold okEq SeqAt.shaped
  rw [this.1, this.2, decide_eq_true (Nat.le_trans h.2.1 hd)]
  rfl
theorem bk_none : Bk 0 1 .none := ⟨rfl, by simp [PyData.depth], by simp [PyData.bulk]⟩
theorem bk_bool {b : Bool} : Bk 0 1 (.bool b) := ⟨rfl, by simp [PyData.depth], by simp [PyData.bulk]⟩
theorem bk_intZ {i : Int} (h : i.natAbs < 2 ^ 136) : Bk 0 1 (.int i) := ⟨by simp only [tame, decide_eq_true_eq]; exact h, by simp [PyData.depth], by simp [PyData.bulk]⟩
theorem bk_int {k : Nat} (h : k < 2 ^ 64) : Bk 0 1 (.int (k : Int)) := bk_intZ (by rw [Int.natAbs_natCast]; exact Nat.lt_trans h (by decide))
theorem bk_strN {z : Str} {n : Nat} (h : z.length ≤ n) (hn : n ≤ 100) (hc : ∀ c ∈ z.cps.toList, c < 0x110000) : Bk 0 (n + 1) (.str z) := by
  have h : z.cps.size ≤ n := h
  refine ⟨?_, by simp [PyData.depth], by simp only [PyData.bulk]; omega⟩
  simp only [tame, Bool.and_eq_true, decide_eq_true_eq, List.all_eq_true]
  exact ⟨by omega, hc⟩
theorem bk_nil {d m : Nat} : BkA d m [] := ⟨rfl, by simp [PyData.depthAll], by simp [PyData.bulkAll]⟩
theorem bk_cons {d n m : Nat} {x : D} {xs : List D} (h : Bk d n x) (t : BkA d m xs) : BkA d (n + m) (x :: xs) :=
  ⟨by rw [tameA, h.1, t.1]; rfl, by rw [PyData.depthAll]; exact Nat.max_le.mpr ⟨h.2.1, t.2.1⟩, by rw [PyData.bulkAll]; exact Nat.add_le_add h.2.2 t.2.2⟩
theorem bk_tup {d n : Nat} {xs : List D} (h : BkA d n xs) : Bk (d + 1) (n + 1) (.tuple xs) :=
  ⟨by rw [tame]; exact h.1, by rw [PyData.depth]; exact Nat.add_le_add_right h.2.1 1, by rw [PyData.bulk]; exact Nat.add_le_add_right h.2.2 1⟩
theorem bk_lst {d n : Nat} {xs : List D} (h : BkA d n xs) : Bk (d + 1) (n + 1) (.list xs) :=
  ⟨by rw [tame]; exact h.1, by rw [PyData.depth]; exact Nat.add_le_add_right h.2.1 1, by rw [PyData.bulk]; exact Nat.add_le_add_right h.2.2 1⟩
theorem bk_all {d m : Nat} : ∀ {xs : List D}, (∀ x ∈ xs, Bk d m x) → BkA d (m * xs.length) xs
  | [], _ => bk_nil
  | x :: xs, h => (bk_cons (h x List.mem_cons_self) (bk_all fun y hy => h y (List.mem_cons_of_mem _ hy))).le (Nat.le_refl _) (by rw [List.length_cons, Nat.mul_add]; omega)
theorem bk_map {α : Type} {d m : Nat} {f : α → D} {l : List α} (h : ∀ x ∈ l, Bk d m (f x)) : BkA d (m * l.length) (l.map f) := by
  have := bk_all (xs := l.map f) fun y hy => by
    obtain ⟨x, hx, rfl⟩ := List.mem_map.mp hy
    exact h x hx
  rwa [List.length_map] at this
theorem bk_app {d n m : Nat} : ∀ {xs ys : List D}, BkA d n xs → BkA d m ys → BkA d (n + m) (xs ++ ys)
  | [], ys, _, h => h.le (Nat.le_refl _) (by omega)
  | x :: xs, ys, h, t => by
    obtain ⟨h1, h2, h3⟩ := h
    simp only [tameA, Bool.and_eq_true] at h1
    rw [PyData.depthAll] at h2
    rw [PyData.bulkAll] at h3
    have i := bk_app (xs := xs) (ys := ys) (n := n - (x.bulk + 1)) ⟨h1.2, (Nat.max_le.mp h2).2, by omega⟩ t
    exact (bk_cons (n := x.bulk + 1) ⟨h1.1, (Nat.max_le.mp h2).1, Nat.le_refl _⟩ i).le (Nat.le_refl _) (by omega)
mutual
/-- no truths, no dicts: == is sameness -/
def plainD : D → Bool
  | .bool _ => false
  | .dict _ => false
  | .list xs => plainA xs
  | .tuple xs => plainA xs
  | _ => true
def plainA : List D → Bool
  | [] => true
  | x :: r => plainD x && plainA r
end
mutual
theorem eqv_plain : ∀ x y : D, plainD x = true → plainD y = true → PyData.eqv x y = true → x = y
  | .none, y, _, hy, h => by cases y <;> simp [PyData.eqv] at h ⊢
  | .bool _, y, hx, _, _ => by simp [plainD] at hx
  | .int i, y, _, hy, h => by
    cases y <;> simp [PyData.eqv] at h ⊢
    · simp [plainD] at hy
    · exact h
  | .str z, y, _, hy, h => by cases y <;> simp [PyData.eqv] at h ⊢; exact h
  | .list xs, y, hx, hy, h => by
    cases y <;> simp only [PyData.eqv, Bool.false_eq_true] at h
    rename_i ys
    rw [plainD] at hx hy
    rw [eqvA_plain xs ys hx hy h]
  | .tuple xs, y, hx, hy, h => by
    cases y <;> simp only [PyData.eqv, Bool.false_eq_true] at h
    rename_i ys
    rw [plainD] at hx hy
    rw [eqvA_plain xs ys hx hy h]
  | .dict _, y, hx, _, _ => by simp [plainD] at hx
theorem eqvA_plain : ∀ xs ys : List D, plainA xs = true → plainA ys = true → PyData.eqvAll xs ys = true → xs = ys
  | [], [], _, _, _ => rfl
  | [], _ :: _, _, _, h => by simp [PyData.eqvAll] at h
  | _ :: _, [], _, _, h => by simp [PyData.eqvAll] at h
  | x :: xs, y :: ys, hx, hy, h => by
    simp only [plainA, PyData.eqvAll, Bool.and_eq_true] at hx hy h
    rw [eqv_plain x y hx.1 hy.1 h.1, eqvA_plain xs ys hx.2 hy.2 h.2]
end
mutual
theorem eqv_self : ∀ x : D, noDict x = true → PyData.eqv x x = true
  | .none, _ => rfl
  | .bool b, _ => by simp [PyData.eqv]
  | .int i, _ => by simp [PyData.eqv]
  | .str z, _ => by simp [PyData.eqv]
  | .list xs, h => by
    rw [PyData.eqv]
    exact eqvA_self xs (by simpa [noDict] using h)
  | .tuple xs, h => by
    rw [PyData.eqv]
    exact eqvA_self xs (by simpa [noDict] using h)
  | .dict _, h => by simp [noDict] at h
theorem eqvA_self : ∀ xs : List D, noDicts xs = true → PyData.eqvAll xs xs = true
  | [], _ => rfl
  | x :: xs, h => by
    simp only [noDicts, Bool.and_eq_true] at h
    rw [PyData.eqvAll, eqv_self x h.1, eqvA_self xs h.2]
    rfl
end
theorem Bk.nod {d m : Nat} {x : D} (h : Bk d m x) : noDict x = true := (tame_lay x h.1).2
theorem Bk.self {d m : Nat} {x : D} (h : Bk d m x) : PyData.eqv x x = true := eqv_self x h.nod
theorem plainA_map {α : Type} {f : α → D} : ∀ {l : List α}, (∀ x ∈ l, plainD (f x) = true) → plainA (l.map f) = true
  | [], _ => rfl
  | x :: l, h => by
    rw [List.map_cons, plainA, h x List.mem_cons_self, plainA_map fun y hy => h y (List.mem_cons_of_mem _ hy)]
    rfl
theorem plainA_app : ∀ {xs ys : List D}, plainA xs = true → plainA ys = true → plainA (xs ++ ys) = true
  | [], _, _, h => h
  | x :: xs, ys, h, t => by
    simp only [plainA, Bool.and_eq_true] at h
    rw [List.cons_append, plainA, h.1, plainA_app h.2 t]
    rfl
end DL
namespace L05
open PySem PySem.Spec PyProof.Rows L2 DL
def topS (i : Nat) : Stmt := PySem.Challenge.pw_wiretongue_k05_whole_written_and_read_ag.main.body.getD i (.Pass ⟨0, 0, 0, 0⟩)
abbrev s_law_draw : Stmt := topS 27
abbrev N_law_draw : List Str := ["_law_deck_here", "_law_sides", "_law_at", "_law_mixed", "_law_cell"]
theorem sc_law_draw : FnScope N_law_draw ["_law_deck_here", "_law_sides"] (defScope s_law_draw) := ⟨rfl, rfl, rfl, by decide +kernel, rfl, by decide +kernel, by decide +kernel⟩
abbrev s_law_deck : Stmt := topS 26
abbrev N_law_deck : List Str := ["_law_script", "_law_cells", "_law_seed", "_law_cell"]
theorem sc_law_deck : FnScope N_law_deck ["_law_script"] (defScope s_law_deck) := ⟨rfl, rfl, rfl, by decide +kernel, rfl, by decide +kernel, by decide +kernel⟩
abbrev s_is_name : Stmt := topS 16
abbrev N_is_name : List Str := ["thing", "sign"]
theorem sc_is_name : FnScope N_is_name ["thing"] (defScope s_is_name) := ⟨rfl, rfl, rfl, by decide +kernel, rfl, by decide +kernel, by decide +kernel⟩
abbrev s_is_told_name : Stmt := topS 17
abbrev N_is_told_name : List Str := ["word", "first", "point", "last"]
theorem sc_is_told_name : FnScope N_is_told_name ["word"] (defScope s_is_told_name) := ⟨rfl, rfl, rfl, by decide +kernel, rfl, by decide +kernel, by decide +kernel⟩
abbrev s_number_in : Stmt := topS 18
abbrev N_number_in : List Str := ["word", "sign"]
theorem sc_number_in : FnScope N_number_in ["word"] (defScope s_number_in) := ⟨rfl, rfl, rfl, by decide +kernel, rfl, by decide +kernel, by decide +kernel⟩
abbrev s_RowReader_init : Stmt := inClass (topS 23) 0
abbrev N_RowReader_init : List Str := ["self", "row", "words"]
theorem sc_RowReader_init : FnScope N_RowReader_init ["self", "row", "words"] (defScope s_RowReader_init) := ⟨rfl, rfl, rfl, by decide +kernel, rfl, by decide +kernel, by decide +kernel⟩
abbrev s_RowReader_place_now : Stmt := inClass (topS 23) 1
abbrev N_RowReader_place_now : List Str := ["self"]
theorem sc_RowReader_place_now : FnScope N_RowReader_place_now ["self"] (defScope s_RowReader_place_now) := ⟨rfl, rfl, rfl, by decide +kernel, rfl, by decide +kernel, by decide +kernel⟩
abbrev s_RowReader_is_at_end : Stmt := inClass (topS 23) 2
abbrev N_RowReader_is_at_end : List Str := ["self"]
theorem sc_RowReader_is_at_end : FnScope N_RowReader_is_at_end ["self"] (defScope s_RowReader_is_at_end) := ⟨rfl, rfl, rfl, by decide +kernel, rfl, by decide +kernel, by decide +kernel⟩
abbrev s_RowReader_must : Stmt := inClass (topS 23) 3
abbrev N_RowReader_must : List Str := ["self", "good"]
theorem sc_RowReader_must : FnScope N_RowReader_must ["self", "good"] (defScope s_RowReader_must) := ⟨rfl, rfl, rfl, by decide +kernel, rfl, by decide +kernel, by decide +kernel⟩
abbrev s_RowReader_peeked : Stmt := inClass (topS 23) 4
abbrev N_RowReader_peeked : List Str := ["self"]
theorem sc_RowReader_peeked : FnScope N_RowReader_peeked ["self"] (defScope s_RowReader_peeked) := ⟨rfl, rfl, rfl, by decide +kernel, rfl, by decide +kernel, by decide +kernel⟩
abbrev s_RowReader_name_taken : Stmt := inClass (topS 23) 5
abbrev N_RowReader_name_taken : List Str := ["self", "word"]
theorem sc_RowReader_name_taken : FnScope N_RowReader_name_taken ["self"] (defScope s_RowReader_name_taken) := ⟨rfl, rfl, rfl, by decide +kernel, rfl, by decide +kernel, by decide +kernel⟩
abbrev s_RowReader_number_taken : Stmt := inClass (topS 23) 6
abbrev N_RowReader_number_taken : List Str := ["self", "least", "most", "number"]
theorem sc_RowReader_number_taken : FnScope N_RowReader_number_taken ["self", "least", "most"] (defScope s_RowReader_number_taken) := ⟨rfl, rfl, rfl, by decide +kernel, rfl, by decide +kernel, by decide +kernel⟩
abbrev s_RowReader_part_taken : Stmt := inClass (topS 23) 7
abbrev N_RowReader_part_taken : List Str := ["self", "kind", "deep"]
theorem sc_RowReader_part_taken : FnScope N_RowReader_part_taken ["self", "kind", "deep"] (defScope s_RowReader_part_taken) := ⟨rfl, rfl, rfl, by decide +kernel, rfl, by decide +kernel, by decide +kernel⟩
abbrev s_RowReader_expression_taken : Stmt := inClass (topS 23) 8
abbrev N_RowReader_expression_taken : List Str := ["self", "deep", "place", "word", "parts", "kind"]
theorem sc_RowReader_expression_taken : FnScope N_RowReader_expression_taken ["self", "deep"] (defScope s_RowReader_expression_taken) := ⟨rfl, rfl, rfl, by decide +kernel, rfl, by decide +kernel, by decide +kernel⟩
abbrev s_RowReader_use_taken : Stmt := inClass (topS 23) 9
abbrev N_RowReader_use_taken : List Str := ["self", "told", "clocks", "handed", "turn"]
theorem sc_RowReader_use_taken : FnScope N_RowReader_use_taken ["self"] (defScope s_RowReader_use_taken) := ⟨rfl, rfl, rfl, by decide +kernel, rfl, by decide +kernel, by decide +kernel⟩
abbrev s_RowReader_row_taken : Stmt := inClass (topS 23) 10
abbrev N_RowReader_row_taken : List Str := ["self", "word", "found", "kind"]
theorem sc_RowReader_row_taken : FnScope N_RowReader_row_taken ["self"] (defScope s_RowReader_row_taken) := ⟨rfl, rfl, rfl, by decide +kernel, rfl, by decide +kernel, by decide +kernel⟩
abbrev s_read_module : Stmt := topS 24
abbrev N_read_module : List Str := ["text", "row", "line"]
theorem sc_read_module : FnScope N_read_module ["text"] (defScope s_read_module) := ⟨rfl, rfl, rfl, by decide +kernel, rfl, by decide +kernel, by decide +kernel⟩
abbrev s_words_of : Stmt := topS 1
abbrev N_words_of : List Str := ["part", "word", "place", "parts", "one", "more"]
theorem sc_words_of : FnScope N_words_of ["part"] (defScope s_words_of) := ⟨rfl, rfl, rfl, by decide +kernel, rfl, by decide +kernel, by decide +kernel⟩
abbrev s_row_words : Stmt := topS 2
abbrev N_row_words : List Str := ["row", "word", "parts", "name", "module", "clocks", "handed", "part", "more"]
theorem sc_row_words : FnScope N_row_words ["row"] (defScope s_row_words) := ⟨rfl, rfl, rfl, by decide +kernel, rfl, by decide +kernel, by decide +kernel⟩
abbrev s_show_module : Stmt := topS 3
abbrev N_show_module : List Str := ["tree", "row"]
theorem sc_show_module : FnScope N_show_module ["tree"] (defScope s_show_module) := ⟨rfl, rfl, rfl, by decide +kernel, rfl, by decide +kernel, by decide +kernel⟩
abbrev s_law_pick : Stmt := topS 28
abbrev N_law_pick : List Str := ["_law_deck_here", "_law_some"]
theorem sc_law_pick : FnScope N_law_pick ["_law_deck_here", "_law_some"] (defScope s_law_pick) := ⟨rfl, rfl, rfl, by decide +kernel, rfl, by decide +kernel, by decide +kernel⟩
abbrev s_law_kept : Stmt := topS 29
abbrev N_law_kept : List Str := []
theorem sc_law_kept : FnScope N_law_kept [] (defScope s_law_kept) := ⟨rfl, rfl, rfl, by decide +kernel, rfl, by decide +kernel, by decide +kernel⟩
abbrev s_law_name : Stmt := topS 30
abbrev N_law_name : List Str := ["_law_deck_here", "_law_letters", "_law_way", "_law_word", "_law_some", "_law_k"]
theorem sc_law_name : FnScope N_law_name ["_law_deck_here"] (defScope s_law_name) := ⟨rfl, rfl, rfl, by decide +kernel, rfl, by decide +kernel, by decide +kernel⟩
abbrev s_law_shapes : Stmt := topS 31
abbrev N_law_shapes : List Str := ["_law_found", "_law_word"]
theorem sc_law_shapes : FnScope N_law_shapes [] (defScope s_law_shapes) := ⟨rfl, rfl, rfl, by decide +kernel, rfl, by decide +kernel, by decide +kernel⟩
abbrev s_law_number : Stmt := topS 32
abbrev N_law_number : List Str := ["_law_deck_here", "_law_kind"]
theorem sc_law_number : FnScope N_law_number ["_law_deck_here", "_law_kind"] (defScope s_law_number) := ⟨rfl, rfl, rfl, by decide +kernel, rfl, by decide +kernel, by decide +kernel⟩
abbrev s_law_expression : Stmt := topS 33
abbrev N_law_expression : List Str := ["_law_deck_here", "_law_left", "_law_room", "_law_shapes_here", "_law_way", "_law_word", "_law_sorts", "_law_found", "_law_least", "_law_kind"]
theorem sc_law_expression : FnScope N_law_expression ["_law_deck_here", "_law_left", "_law_room"] (defScope s_law_expression) := ⟨rfl, rfl, rfl, by decide +kernel, rfl, by decide +kernel, by decide +kernel⟩
abbrev s_law_row : Stmt := topS 34
abbrev N_law_row : List Str := ["_law_deck_here", "_law_deep", "_law_way", "_law_x", "_law_clock", "_law_broad", "_law_number_here", "_law_handed", "_law_one", "_law_k"]
theorem sc_law_row : FnScope N_law_row ["_law_deck_here", "_law_deep"] (defScope s_law_row) := ⟨rfl, rfl, rfl, by decide +kernel, rfl, by decide +kernel, by decide +kernel⟩
abbrev s_law_laid_out : Stmt := topS 35
abbrev N_law_laid_out : List Str := ["_law_part", "_law_row_here", "_law_at", "_law_words", "_law_heard_so", "_law_one", "_law_more", "_law_e"]
theorem sc_law_laid_out : FnScope N_law_laid_out ["_law_part", "_law_row_here", "_law_at"] (defScope s_law_laid_out) := ⟨rfl, rfl, rfl, by decide +kernel, rfl, by decide +kernel, by decide +kernel⟩
abbrev s_law_row_out : Stmt := topS 36
abbrev N_law_row_out : List Str := ["_law_made", "_law_row_here", "_law_words", "_law_heard_so", "_law_one", "_law_more", "_law_e"]
theorem sc_law_row_out : FnScope N_law_row_out ["_law_made", "_law_row_here"] (defScope s_law_row_out) := ⟨rfl, rfl, rfl, by decide +kernel, rfl, by decide +kernel, by decide +kernel⟩
abbrev s_law_both : Stmt := topS 37
abbrev N_law_both : List Str := ["_law_made", "_law_some", "_law_row_here", "_law_one", "_law_words", "_law_heard_so"]
theorem sc_law_both : FnScope N_law_both ["_law_made"] (defScope s_law_both) := ⟨rfl, rfl, rfl, by decide +kernel, rfl, by decide +kernel, by decide +kernel⟩
abbrev s_law_module : Stmt := topS 38
abbrev N_law_module : List Str := ["_law_deck_here", "_law_most", "_law_deep", "_law_k"]
theorem sc_law_module : FnScope N_law_module ["_law_deck_here", "_law_most", "_law_deep"] (defScope s_law_module) := ⟨rfl, rfl, rfl, by decide +kernel, rfl, by decide +kernel, by decide +kernel⟩
abbrev s_law : Stmt := topS 39
abbrev N_law : List Str := ["_law_script", "_law_deck_here", "_law_some", "_law_short", "_law_text", "_law_made_so", "_law_kept_here", "_law_heard_so", "_law_other", "_law_there", "_law_turn", "_law_k"]
theorem sc_law : FnScope N_law ["_law_script"] (defScope s_law) := ⟨rfl, rfl, rfl, by decide +kernel, rfl, by decide +kernel, by decide +kernel⟩
/-! ### names and data of the text -/
def letters : Str := "abcdefghijklmnopqrstuvwxyz"
def figText : Str := "0123456789"
def keptText : Str := "clock in out wire box cross use num not and or xor sum same below pick join cut bit one"
def keptL : List Str := ["clock", "in", "out", "wire", "box", "cross", "use", "num", "not", "and", "or", "xor", "sum", "same", "below", "pick", "join", "cut", "bit", "one"]
def keptD : List D := keptL.map PyData.str
def rowsG : List (Str × D) := [("clock", .str "x"), ("in", .str "xwx"), ("out", .str "xwxe"), ("wire", .str "xwe"), ("box", .str "xwxke"), ("cross", .str "xxkn")]
def exprG : List (Str × D) := [("num", .str "wk"), ("not", .str "e"), ("and", .str "ee"), ("or", .str "ee"), ("xor", .str "ee"), ("sum", .str "ee"), ("same", .str "ee"), ("below", .str "ee"), ("join", .str "ee"), ("pick", .str "eee"), ("cut", .str "we"), ("bit", .str "ke")]
structure Tb (K : PySem.W.Frag) (w : World) (mg : Str → Option Value) (C : Addr) : Prop where
  n_len : mg "len" = none
  n_all : mg "all" = none
  n_isinstance : mg "isinstance" = none
  n_str : mg "str" = none
  n_int : mg "int" = none
  n_range : mg "range" = none
  n_list : mg "list" = none
  n_repr : mg "repr" = none
  n_tuple : mg "tuple" = none
  n_enumerate : mg "enumerate" = none
  g_LETTERS : GlobD K mg "LETTERS" (.str letters)
  g_FIGURES : GlobD K mg "FIGURES" (.str figText)
  g_LONGEST : GlobD K mg "LONGEST" (.int 6)
  g_NUMBERS : GlobD K mg "NUMBERS" (.int 65536)
  g_WIDEST : GlobD K mg "WIDEST" (.int 8)
  g_DEEPEST : GlobD K mg "DEEPEST" (.int 12)
  g_MOST_CLOCKS : GlobD K mg "MOST_CLOCKS" (.int 4)
  g_MOST_HANDED : GlobD K mg "MOST_HANDED" (.int 6)
  g_KEPT : GlobD K mg "KEPT" (.tuple keptD)
  g_LEAVES : GlobD K mg "LEAVES" (.tuple [.str "num"])
  gd_ROWS : GDict K w mg "ROWS" rowsG
  gd_EXPRESSIONS : GDict K w mg "EXPRESSIONS" exprG
  cl : Cls K C
  na_row_here : NoAttr K C "row_here"
  na_words : NoAttr K C "words"
  na_taken : NoAttr K C "taken"
section
variable {P : Program} {w : World} {K : PySem.W.Frag} {mg : Str → Option Value} {base : Heap}
theorem ok_draw {f : Addr} {fd : FuncData} {k : Nat} (F : Fun K "_law_draw" "_law_draw" s_law_draw f fd) : FnG P w K mg base CX0 (k + 1) f fd ["_law_deck_here", "_law_sides"] (spD K 1 spDraw) := by
  refine Fun.okG F sc_law_draw (fun vs H Q E h => ?_) (fun cdv A fs s H vs Q E hr h => ?_)
  · obtain ⟨W, B, G, as, Pd, r, a, ⟨n, rfl, _⟩, _⟩ := h
    exact args_len a
  · obtain ⟨W, B, G, as, Pd, r, a, ⟨n, rfl, n0, n1, hP⟩, q⟩ := h
    have nd := sc_law_draw.nd
    have hu := hu_of hr.rm
    refine ⟨_, PSs.nox (pss_cons (ps_dput hu (pv 0) pe_str (pe_op op_add (pe_dget hu (pv 0) pe_str (fun _ _ => rfl)) pe_int) rfl)
      (pss_cons (ps_set (i := 2) nd rfl (.inl rfl) (pe_dget hu (pv 0) pe_str (fun _ _ => rfl)))
      (pss_cons (ps_set (i := 3) nd rfl (.inl rfl) (pe_op op_add (pe_dget hu (pv 0) pe_str (fun _ _ => rfl)) (pe_op op_mulX (pe_op op_mulX pe_int (pv 2)) (pv 2))))
      (pss_cons (ps_if (pt_cmpR (op_neD hr.rm.units) (pe_dget hu (pv 0) pe_str (fun _ _ => rfl)) (pe_lst pa_nil) (nomark _))
        (pss_cons (ps_set (i := 4) nd rfl (.inl rfl) (pe_bm0 PySem.F.plainAttrs_list PySem.F.slot_list_pop PySem.F.type_list_pop mt_pop (pe_dget hu (pv 0) pe_str (fun _ _ => rfl))))
        (pss_cons (ps_if (pt_cmpR op_ge (pv 4) (pe_op op_pow pe_int pe_int) (nomark _))
          (pss_cons (ps_expr (pe_bm PySem.F.plainAttrs_list PySem.F.slot_list_append PySem.F.type_list_append mt_append (pe_dget hu (pv 0) pe_str (fun _ _ => rfl)) (pa_cons (pe_op op_fdivW (pv 4) (pv 1)) pa_nil)))
          (pss_one (ps_ret (pe_op op_mod (pv 4) (pv 1))))) pss_nil)
        (pss_one (ps_set (i := 3) nd rfl (.inl rfl) (pe_op op_add (pv 3) (pe_op op_mulX pe_int (pv 4))))))) pss_nil)
      (pss_cons (ps_set (i := 3) nd rfl (.inl rfl) (pe_op op_mod (pe_op op_mulX (pv 3) (pe_op op_add (pv 3) (pe_op op_mulX pe_int (pv 2)))) pe_int))
      (pss_cons (ps_set (i := 3) nd rfl (.inl rfl) (pe_op op_mod (pe_op op_add (pe_op op_mulX (pv 3) (pv 3)) (pe_op op_mulX pe_int (pv 2))) pe_int))
      (pss_one (ps_ret (pe_op op_mod (pe_op op_fdiv (pv 3) pe_int) (pv 1)))))))))), ?_⟩
    have e : L2.start N_law_draw vs = vs.map some ++ [none, none, none] := by
      unfold L2.start
      rw [args_len a]
      rfl
    rw [e]
    exact draw_reads r a n0 n1 hP q
theorem ok_deck {f : Addr} {fd : FuncData} {k : Nat} (ml : mg "len" = none) (mL : mg "list" = none) (F : Fun K "_law_deck" "_law_deck" s_law_deck f fd) : FnG P w K mg base CX0 (k + 1) f fd ["_law_script"] (spDeck K) := by
  refine Fun.okG F sc_law_deck (fun vs H Q E h => ?_) (fun cdv A fs s H vs Q E hr h => ?_)
  · obtain ⟨a, ns, rfl, _⟩ := h
    rfl
  · have nd := sc_law_deck.nd
    have hu := hu_of hr.rm
    refine ⟨_, PSs.nox (pss_cons (ps_set (i := 1) nd rfl (.inl rfl) (pe_callTy call_list_of (by rfl) mL (by decide +kernel) (pa_cons (pe_slice sl_list (pv 0) po_none (po_some pe_int)) pa_nil)))
      (pss_cons (ps_set (i := 2) nd rfl (.inl rfl) (pe_op op_add pe_int (pe_callB call_len_seq (by rfl) ml PySem.boot_len (pa_cons (pv 1) pa_nil))))
      (pss_cons (ps_for PassesOwn.never rfl (pi_list (pv 1)) (pg_name (i := 3) nd rfl (.inl rfl)) (pss_one (ps_set (i := 2) nd rfl (.inl rfl) (pe_op op_mod (pe_op op_add (pe_op op_mulX (pv 2) pe_int) (pv 3)) pe_int))))
      (pss_one (ps_ret (pe_disp (pps_cons pe_str (pe_revL (pv 1)) (pps_cons pe_str (pv 2) (pps_cons pe_str pe_int pps_nil))) (by rfl) (by rfl) (fun z => by cases z) (by decide))))))), ?_⟩
    have e : L2.start N_law_deck vs = vs.map some ++ [none, none, none] := by
      obtain ⟨a, ns, rfl, _⟩ := h
      rfl
    rw [e]
    exact deck_reads h
end
end L05
namespace L05
open PySem PySem.Spec PyProof.Rows L2 DL
def isNameD : D → Bool
  | .str z => decide (1 ≤ z.length) && (decide (z.length ≤ 6) && (z.cps.toList.all (fun c => decide (c ∈ letters.cps.toList)) && !inD (.str z) keptD))
  | _ => false
def spIsName : List EV → (D → Prop) → Prop := fun as P => ∃ x, as = [.d x] ∧ (∀ z, x = .str z → z.length ≤ sizeLine) ∧ P (.bool (isNameD x))
def spKept : List EV → (D → Prop) → Prop := fun as P => as = [] ∧ P (.list keptD)
def spPick : List EV → (D → Prop) → Prop := fun as P => ∃ x, as = [.hd, .d x] ∧ ((∃ xs, x = .list xs ∧ 0 < xs.length ∧ xs.length < 2 ^ 60 ∧ ∀ y ∈ xs, P y) ∨ ∃ z, x = .str z ∧ 0 < z.length ∧ z.length ≤ sizeLine ∧ ∀ c ∈ z.cps.toList, P (.str ⟨#[c]⟩))
/-- a sign is one of the letters -/
def signIn : D → Bool
  | .str ⟨a⟩ => match a.toList with
    | [c] => decide (c ∈ letters.cps.toList)
    | _ => false
  | _ => false
theorem signs_all (z : Str) : (strD z).filterMap (fun x => some (PyData.bool (signIn x))) = (z.cps.toList.map (fun c => decide (c ∈ letters.cps.toList))).map PyData.bool := by
  unfold strD
  rw [List.filterMap_map, List.map_map]
  induction z.cps.toList with
  | nil => rfl
  | cons c r ih => rw [List.filterMap_cons, List.map_cons, ← ih]; rfl
theorem bls_bools : ∀ bs : List Bool, blsD (bs.map PyData.bool) = some bs
  | [] => rfl
  | b :: r => by rw [List.map_cons, blsD, bls_bools r]; rfl
theorem all_map_id (l : List Nat) (p : Nat → Bool) : (l.map p).all id = l.all p := by
  rw [List.all_map]
  rfl
theorem split_kept : Txt.split keptText " " = keptL := by decide +kernel
section
variable {P : Program} {w : World} {K : PySem.W.Frag} {mg : Str → Option Value} {base : Heap} {C : Addr} {f : Addr} {fd : FuncData}
theorem ok_kept (T : Tb K w mg C) (F : Fun K "_law_kept" "_law_kept" s_law_kept f fd) : FnG P w K mg base CX0 1 f fd [] (spD K 0 spKept) := by
  have nd := sc_law_kept.nd
  refine okDG (k := 0) F sc_law_kept (fun as Q h => by rw [h.1]; rfl) (fun cdv A fs s H E hr => have hu := hr.rm.units; have hgd := hr.gd; (gss_one (gs_ret (ge_bm PySem.F.plainAttrs_str PySem.F.slot_str_split PySem.F.type_str_split md_split ge_str (ga_cons ge_str ga_nil))))) (by decide) (fun as Q h => ?_)
  obtain ⟨rfl, hQ⟩ := h
  refine ⟨rfl, ⟨by decide +kernel, by decide +kernel⟩, ?_⟩
  have e := split_kept
  show Q (.list ((Txt.split keptText " ").map PyData.str))
  rw [e]
  exact hQ
theorem ok_pick (T : Tb K w mg C) (c_law_draw : Cal P w K mg base "_law_draw" 1 ["_law_deck_here", "_law_sides"] 1 spDraw) (F : Fun K "_law_pick" "_law_pick" s_law_pick f fd) : FnG P w K mg base CX0 2 f fd ["_law_deck_here", "_law_some"] (spD K 1 spPick) := by
  have nd := sc_law_pick.nd
  refine okDG (k := 1) F sc_law_pick (fun as Q h => by obtain ⟨x, rfl, _⟩ := h; rfl) (fun cdv A fs s H E hr => have hu := hr.rm.units; have hgd := hr.gd; (gss_one (gs_ret (ge_ix od_ix (ge_var 1) (ge_cal c_law_draw (hr.mono (by first | decide | omega)) (by rfl) (ga_hd 0 (ga_cons (ge_callB cd_len (by rfl) T.n_len PySem.boot_len (ga_cons (ge_var 1) ga_nil)) ga_nil))) (fun _ _ => rfl))))) (by decide) (fun as Q h => ?_)
  obtain ⟨x, rfl, h⟩ := h
  rcases h with ⟨xs, rfl, h0, h1, hQ⟩ | ⟨z, rfl, h0, h1, hQ⟩
  · refine ⟨_, rfl, by omega, by omega, fun r r0 r1 => ?_⟩
    obtain ⟨y, e, m, _⟩ := atI_lt r0 r1
    exact ⟨y, e, hQ y m⟩
  · have hz : z.length = z.cps.toList.length := by rw [Array.length_toList]; rfl
    have hs : sizeLine < 2 ^ 60 := by decide
    refine ⟨h1, _, rfl, by omega, by omega, fun r r0 r1 => ⟨h1, ?_⟩⟩
    obtain ⟨y, e, m, _⟩ := atI_lt (xs := z.cps.toList) r0 (by rw [← hz]; exact r1)
    exact ⟨y, e, hQ y m⟩
theorem ok_is_name (T : Tb K w mg C) (F : Fun K "is_name" "is_name" s_is_name f fd) : FnG P w K mg base CX0 1 f fd ["thing"] (spD K 0 spIsName) := by
  have nd := sc_is_name.nd
  refine okDG (k := 0) F sc_is_name (fun as Q h => by obtain ⟨x, rfl, _⟩ := h; rfl) (fun cdv A fs s H E hr => have hu := hr.rm.units; have hgd := hr.gd; (gss_cons (gs_if (PW.pt (gt_or (gt_not (gt_val (ge_isi kit_str (by rfl) T.n_isinstance (by rfl) T.n_str (by decide +kernel) (ge_var 0)))) (pw_or1 (gt_not (gt_chain od_le od_le ge_int (ge_callB cd_len (by rfl) T.n_len PySem.boot_len (ga_cons (ge_var 0) ga_nil)) (ge_gl T.g_LONGEST (by rfl))))))) (gss_one (gs_ret ge_bl)) gss_nil)
      (gss_one (gs_ret (ge_andV (ge_callB (cd_all rfl) (by rfl) T.n_all boot_all (ga_cons (ge_pub (gf_lc 0 rfl nd (gi_str (ge_var 0)) (blkOk_by (own := [("sign", 1)]) (N := N_is_name) (sc := defScope s_is_name) (by decide +kernel)) (fun _ _ _ _ _ => (gg_name (i := 1) (vs := (List.map (·.2) ([("sign", 1)] : List (Str × Nat)))) nd rfl (.inl rfl) (by decide))) (fun _ _ _ _ _ => gts_nil) (fun _ _ _ _ _ => (ge_cmp od_in (ge_var 1) (ge_gl T.g_LETTERS (by rfl)) (by rfl))))) ga_nil)) (pe_one (ge_cmp od_notIn (ge_var 0) (ge_gl T.g_KEPT (by rfl)) (by rfl)))))))) (by decide) (fun as Q h => ?_)
  obtain ⟨x, rfl, hz, hQ⟩ := h
  cases x with
  | str z =>
    have hl : z.length ≤ sizeLine := hz z rfl
    refine ⟨hl, ?_⟩
    rw [show env0 N_is_name [.d (.str z)] = [.d (.str z), .un] from rfl]
    dsimp only [cLe, cI, mC]
    dsimp only [isNameD] at hQ
    cases h1 : decide ((1 : Int) ≤ (z.length : Int)) with
    | false =>
      have h1' : decide (1 ≤ z.length) = false := decide_eq_false fun e => of_decide_eq_false h1 (by omega)
      rw [h1'] at hQ
      exact hQ
    | true =>
      have h1' : decide (1 ≤ z.length) = true := decide_eq_true (by have := of_decide_eq_true h1; omega)
      rw [h1'] at hQ
      dsimp only
      cases h2 : decide ((z.length : Int) ≤ 6) with
      | false =>
        have h2' : decide (z.length ≤ 6) = false := decide_eq_false fun e => of_decide_eq_false h2 (by omega)
        rw [h2'] at hQ
        exact hQ
      | true =>
        have h2' : decide (z.length ≤ 6) = true := decide_eq_true (by have := of_decide_eq_true h2; omega)
        rw [h2'] at hQ
        refine ⟨Nat.le_of_eq (Nat.mul_zero _), fun i hi w c => ?_, ?_⟩
        · have : i = 1 := by simpa using hi
          subst this
          simp
        · refine lcl_fun (fun x => some (.bool (signIn x))) _ _ (fun x hx k hk => ?_) ?_ ?_
          · obtain ⟨c, hc, rfl⟩ := List.mem_map.mp hx
            exact ⟨rfl, rfl, hk⟩
          · rw [strD_len, List.length_nil, Nat.zero_add]
            exact hl
          · rw [List.nil_append, signs_all]
            dsimp only [mNil, mDats, dats, Option.map, dAll]
            rw [bls_bools]
            dsimp only
            rw [all_map_id]
            cases h3 : z.cps.toList.all (fun c => decide (c ∈ letters.cps.toList)) with
            | false =>
              rw [h3] at hQ
              exact hQ
            | true =>
              rw [h3] at hQ
              exact ⟨⟨rfl, by decide +kernel⟩, hQ⟩
  | none => exact hQ
  | bool b => exact hQ
  | int b => exact hQ
  | list b => exact hQ
  | tuple b => exact hQ
  | dict b => exact hQ
end
end L05
namespace L05
open PySem PySem.Spec PyProof.Rows L2 DL
/-! ### names -/
def NmOk (z : Str) : Prop := isNameD (.str z) = true
def LetW (z : Str) : Prop := z.cps.toList.all (fun c => decide (c ∈ letters.cps.toList)) = true ∧ 1 ≤ z.length ∧ z.length ≤ 6
def spName : List EV → (D → Prop) → Prop := fun as P => as = [.hd] ∧ ∀ z : Str, NmOk z → P (.str z)
theorem len_app (a b : Str) : (a ++ b).length = a.length + b.length := Str.length_append a b
theorem rangeD_len (lo : Int) (n : Nat) : (rangeD lo n).length = n := by rw [rangeD, List.length_map, List.length_range]
theorem big_size : (1000000 : Nat) ≤ sizeLine := by decide
def one (c : Nat) : Str := ⟨#[c]⟩
theorem signs_of : ∀ ys : List D, (∀ y ∈ ys, ∃ c : Nat, c ∈ letters.cps.toList ∧ y = .str (one c)) → ∃ cs : List Nat, ys = cs.map (fun c => .str (one c)) ∧ cs.all (fun c => decide (c ∈ letters.cps.toList)) = true ∧ cs.length = ys.length
  | [], _ => ⟨[], rfl, rfl, rfl⟩
  | y :: r, h => by
    obtain ⟨c, hc, rfl⟩ := h y List.mem_cons_self
    obtain ⟨cs, e, h1, h2⟩ := signs_of r fun z hz => h z (List.mem_cons_of_mem _ hz)
    exact ⟨c :: cs, by rw [e]; rfl, by rw [List.all_cons, decide_eq_true hc, h1]; rfl, by rw [List.length_cons, List.length_cons, h2]⟩
theorem strs_codes (cs : List Nat) : strsD (cs.map fun c => PyData.str (one c)) = some (cs.map one) := by
  induction cs with
  | nil => rfl
  | cons c cs ih => rw [List.map_cons, strsD, ih]; rfl
theorem glue : ∀ cs : List Nat, TL.joinL [] (cs.map fun c => [c]) = cs
  | [] => rfl
  | [c] => rfl
  | c :: d :: r => by
    show [c] ++ ([] ++ TL.joinL [] ((d :: r).map fun c => [c])) = _
    rw [glue (d :: r)]
    rfl
theorem join_codes (cs : List Nat) : (Txt.join "" (cs.map one)).cps.toList = cs := by
  rw [TL.join_eq]
  show TL.tl (Str.join "" (cs.map one)) = cs
  rw [TL.tl_join, List.map_map]
  exact glue cs
theorem sum_codes : ∀ cs : List Nat, ((cs.map one).map (·.length)).sum = cs.length
  | [] => rfl
  | c :: cs => by
    rw [List.map_cons, List.map_cons, List.sum_cons, sum_codes cs, List.length_cons]
    show 1 + cs.length = cs.length + 1
    omega
theorem kept_q : ∀ s ∈ keptL, isNameD (.str (s ++ Txt.mul "q" 1)) = true := by decide +kernel
theorem mul_ok (b : Bool) : MulOk "q" (if b then 1 else 0) := by
  cases b <;> exact ⟨by decide +kernel, by decide +kernel, by decide +kernel⟩
theorem mul_q0 : Txt.mul "q" 0 = "" := by decide +kernel
theorem app_nil (z : Str) : z ++ ("" : Str) = z := by
  show (⟨z.cps ++ #[]⟩ : Str) = z
  rw [Array.append_empty]
theorem in_kept {z : Str} (h : inD (.str z) keptD = true) : z ∈ keptL := by
  unfold inD keptD at h
  rw [List.any_map, List.any_eq_true] at h
  obtain ⟨y, hy, e⟩ := h
  have : y = z := by simpa [PyData.eqv] using e
  exact this ▸ hy
theorem nm_fin {wd : Str} (h : LetW wd) : NmOk (wd ++ Txt.mul "q" (if inD (.str wd) keptD then 1 else 0)) := by
  cases hk : inD (.str wd) keptD with
  | true => exact kept_q wd (in_kept hk)
  | false =>
    show isNameD (.str (wd ++ Txt.mul "q" 0)) = true
    rw [mul_q0, app_nil]
    show (decide (1 ≤ wd.length) && (decide (wd.length ≤ 6) && (wd.cps.toList.all (fun c => decide (c ∈ letters.cps.toList)) && !inD (.str wd) keptD))) = true
    rw [decide_eq_true h.2.1, decide_eq_true h.2.2, h.1, hk]
    rfl
theorem nm_len {z : Str} (h : NmOk z) : 1 ≤ z.length ∧ z.length ≤ 6 := by
  have h : (decide (1 ≤ z.length) && (decide (z.length ≤ 6) && (z.cps.toList.all (fun c => decide (c ∈ letters.cps.toList)) && !inD (.str z) keptD))) = true := h
  simp only [Bool.and_eq_true, decide_eq_true_eq] at h
  exact ⟨h.1, h.2.1⟩
theorem nm_signs {z : Str} (h : NmOk z) : z.cps.toList.all (fun c => decide (c ∈ letters.cps.toList)) = true := by
  have h : (decide (1 ≤ z.length) && (decide (z.length ≤ 6) && (z.cps.toList.all (fun c => decide (c ∈ letters.cps.toList)) && !inD (.str z) keptD))) = true := h
  simp only [Bool.and_eq_true, decide_eq_true_eq] at h
  simpa using h.2.2.1
def threeL (s : Str) : List Str := [s ++ "x", cutS s none (some (-1)), "a" ++ s]
theorem three_ok : ∀ s ∈ keptL, ∀ y ∈ threeL s, ((cutS y none (some 6)).cps.toList.all (fun c => decide (c ∈ letters.cps.toList)) && (decide (1 ≤ (cutS y none (some 6)).length) && decide ((cutS y none (some 6)).length ≤ 6))) = true := by decide +kernel
theorem three_len : ∀ s ∈ keptL, s.length ≤ 5 := by decide +kernel
section
variable {P : Program} {w : World} {K : PySem.W.Frag} {mg : Str → Option Value} {base : Heap} {C : Addr} {f : Addr} {fd : FuncData}
theorem ok_name (T : Tb K w mg C) (c_law_draw : Cal P w K mg base "_law_draw" 1 ["_law_deck_here", "_law_sides"] 1 spDraw) (c_law_pick : Cal P w K mg base "_law_pick" 2 ["_law_deck_here", "_law_some"] 1 spPick) (c_law_kept : Cal P w K mg base "_law_kept" 1 [] 0 spKept)
    (F : Fun K "_law_name" "_law_name" s_law_name f fd) : FnG P w K mg base CX0 3 f fd ["_law_deck_here"] (spD K 20 spName) := by
  have nd := sc_law_name.nd
  refine okDG (k := 2) F sc_law_name (fun as Q h => by rw [h.1]; rfl) (fun cdv A fs s H E hr => have hu := hr.rm.units; have hgd := hr.gd; (gss_cons (gs_set (i := 1) nd rfl (.inr rfl) ge_str)
      (gss_cons (gs_set (i := 2) nd rfl (.inl rfl) (ge_cal c_law_draw (hr.mono (by first | decide | omega)) (by rfl) (ga_hd 0 (ga_cons ge_int ga_nil))))
      (gss_cons (gs_set (i := 3) nd rfl (.inl rfl) (ge_bm PySem.F.plainAttrs_str PySem.F.slot_str_join PySem.F.type_str_join md_join ge_str (ga_cons (ge_pub (gf_lc 6 rfl nd (gi_range1 (by rfl) T.n_range (ga_cons (ge_ix od_ix (ge_lst (ga_cons ge_int (ga_cons ge_int (ga_cons (ge_op od_add ge_int (ge_cal c_law_draw (hr.mono (by first | decide | omega)) (by rfl) (ga_hd 0 (ga_cons ge_int ga_nil)))) (ga_cons ge_int ga_nil))))) (ge_var 2) (fun _ _ => rfl)) ga_nil)) (blkOk_by (own := [("_law_k", 5)]) (N := N_law_name) (sc := defScope s_law_name) (by decide +kernel)) (fun _ _ _ _ _ => (gg_name (i := 5) (vs := (List.map (·.2) ([("_law_k", 5)] : List (Str × Nat)))) nd rfl (.inl rfl) (by decide))) (fun _ _ _ _ _ => gts_nil) (fun _ _ _ _ _ => (ge_cal c_law_pick (hr.mono (by first | decide | omega)) (by rfl) (ga_hd 0 (ga_cons (ge_var 1) ga_nil)))))) ga_nil)))
      (gss_cons (gs_if (gt_cmp (od_eq hu) (ge_var 2) ge_int (nomark _)) (gss_cons (gs_set (i := 4) nd rfl (.inl rfl) (ge_cal c_law_pick (hr.mono (by first | decide | omega)) (by rfl) (ga_hd 0 (ga_cons (ge_cal0 c_law_kept (hr.mono (by first | decide | omega)) (by rfl)) ga_nil))))
      (gss_one (gs_set (i := 3) nd rfl (.inl rfl) (ge_slice sd_sl (ge_ix od_ix (ge_lst (ga_cons (ge_op od_add (ge_var 4) ge_str) (ga_cons (ge_slice sd_sl (ge_var 4) go_none (go_some (ge_un ud_neg ge_int))) (ga_cons (ge_op od_add ge_str (ge_var 4)) ga_nil)))) (ge_cal c_law_draw (hr.mono (by first | decide | omega)) (by rfl) (ga_hd 0 (ga_cons ge_int ga_nil))) (fun _ _ => rfl)) go_none (go_some ge_int))))) gss_nil)
      (gss_one (gs_ret (ge_op od_add (ge_var 3) (ge_op od_mul ge_str (ge_callTy cd_int (by rfl) T.n_int (by decide +kernel) (ga_cons (ge_cmp od_in (ge_var 3) (ge_cal0 c_law_kept (hr.mono (by first | decide | omega)) (by rfl)) (by rfl)) ga_nil))))))))))) (by decide) (fun as Q h => ?_)
  obtain ⟨rfl, hQ⟩ := h
  have hs := big_size
  have fin : ∀ (wd : Str) (e0 e1 e2 e4 e5 : EV), LetW wd → (sRet (mOp dAdd (mVar 3) (mOp dMul (mC (.str "q")) (mCB dInt (mCons (mCmp cIn (mVar 3) (mCall spKept mNil)) mNil))))) { nx := fun _ => Q .none, rt := fun x _ => Q x } [e0, e1, e2, .d (.str wd), e4, e5] := fun wd e0 e1 e2 e4 e5 hl => by
    have hn := nm_fin hl
    have hn2 := nm_len hn
    rw [len_app] at hn2
    exact ⟨rfl, ⟨rfl, by decide +kernel⟩, mul_ok _, by omega, hQ _ hn⟩
  refine ⟨4, rfl, by decide, by decide, fun way w0 w1 => ⟨rfl, 6, rfl, by decide, by decide, fun r r0 r1 => ⟨(show (4 : Nat) ≤ sizeLine by decide), ?_⟩⟩⟩
  obtain ⟨j, ej, j0, j1⟩ : ∃ j : Int, atI [PyData.int 1, .int 6, .int (1 + r), .int 1] way = some (.int j) ∧ 1 ≤ j ∧ j ≤ 6 := by
    have hw : way = 0 ∨ way = 1 ∨ way = 2 ∨ way = 3 := by omega
    rcases hw with rfl | rfl | rfl | rfl
    · exact ⟨1, rfl, by omega, by omega⟩
    · exact ⟨6, rfl, by omega, by omega⟩
    · exact ⟨1 + r, rfl, by omega, by omega⟩
    · exact ⟨1, rfl, by omega, by omega⟩
  refine ⟨_, ej, by omega, by omega, ?_, fun i hi w c => ?_, ?_⟩
  · rw [rangeD_len]
    omega
  · have : i = 5 := by simpa using hi
    subst this
    simp [env0]
  · refine lcl_any (fun y => ∃ c : Nat, c ∈ letters.cps.toList ∧ y = .str (one c)) _ _ (fun x hx k hk => ?_) ?_ fun ys h1 h2 => ?_
    · exact ⟨rfl, _, rfl, .inr ⟨letters, rfl, by decide +kernel, by decide +kernel, fun c hc => ⟨rfl, hk _ ⟨c, hc, rfl⟩⟩⟩⟩
    · rw [rangeD_len, List.length_nil]
      omega
    · rw [rangeD_len] at h1
      obtain ⟨cs, rfl, l2, l3⟩ := signs_of ys h2
      rw [List.nil_append]
      dsimp only [mNil, mDats, dats, Option.map, fJoin]
      rw [strs_codes]
      have e1 := join_codes cs
      have hlw : LetW (Txt.join "" (cs.map one)) := by
        have e2 : (Txt.join "" (cs.map one)).length = cs.length := by
          have := congrArg List.length e1
          rw [Array.length_toList] at this
          exact this
        refine ⟨by rw [e1]; exact l2, by omega, by omega⟩
      refine ⟨?_, ?_⟩
      · rw [sum_codes]
        show cs.length + (cs.map one).length * 0 ≤ _
        omega
      · generalize Txt.join "" (cs.map one) = wd at hlw
        by_cases h3 : way = 3
        · subst h3
          refine ⟨rfl, _, rfl, .inl ⟨keptD, rfl, by decide +kernel, by decide +kernel, fun y hy => ?_⟩⟩
          obtain ⟨s, hs, rfl⟩ := List.mem_map.mp hy
          have h5 := three_len s hs
          have ex : ("x" : Str).length = 1 := by decide +kernel
          have ea : ("a" : Str).length = 1 := by decide +kernel
          refine ⟨by rw [ex]; omega, by omega, by rw [ea]; omega, (show (3 : Nat) ≤ sizeLine by decide), 3, rfl, by decide, by decide, fun d d0 d1 => ?_⟩
          obtain ⟨y, ey, ym, yl⟩ : ∃ y : Str, atI [PyData.str (s ++ "x"), .str (cutS s none (some (-1))), .str ("a" ++ s)] d = some (.str y) ∧ y ∈ threeL s ∧ y.length ≤ 10 := by
            have hd : d = 0 ∨ d = 1 ∨ d = 2 := by omega
            rcases hd with rfl | rfl | rfl
            · exact ⟨_, rfl, by simp [threeL], by rw [len_app, ex]; omega⟩
            · exact ⟨_, rfl, by simp [threeL], Nat.le_trans (cutS_length _ _ _) (by omega)⟩
            · exact ⟨_, rfl, by simp [threeL], by rw [len_app, ea]; omega⟩
          have tk := three_ok s hs y ym
          simp only [Bool.and_eq_true, decide_eq_true_eq] at tk
          exact ⟨_, ey, by omega, fin _ _ _ _ _ _ ⟨by simpa using tk.1, tk.2.1, tk.2.2⟩⟩
        · have e3 : decide (way = 3) = false := decide_eq_false h3
          show match decide (way = 3) with
            | true => _
            | false => _
          rw [e3]
          exact fin _ _ _ _ _ _ hlw
end
end L05
namespace L05
open PySem PySem.Spec PyProof.Rows L2 DL
/-! ### figures of a number -/
def figs (m : Nat) : List Nat := (Nat.toDigits 10 m).map Char.toNat
theorem figs_dig (m : Nat) : NumText.AllDigits (figs m) := fun c hc => by
  obtain ⟨ch, hch, e⟩ := List.mem_map.mp hc
  rw [← e]
  exact digit_range (Nat.isDigit_of_mem_toDigits (by decide) (by decide) hch)
theorem figs_ne (m : Nat) : figs m ≠ [] := fun e => by
  have h := tDigits_len_ge 10 m
  rw [List.map_eq_nil_iff.mp e] at h
  exact absurd h (by decide)
theorem figs_len {m : Nat} (h : m ≤ 10 ^ 39) : (figs m).length ≤ 40 := by
  unfold figs
  rw [List.length_map]
  exact digits10_le (k := 40) (by decide) (Nat.lt_of_le_of_lt h (by decide))
theorem figs_lead (m : Nat) (h : m ≠ 0) : ∃ c r, figs m = c :: r ∧ c ≠ 48 := by
  induction m using Nat.strongRecOn with
  | _ m ih =>
    by_cases hm : m < 10
    · have e : figs m = [(Nat.digitChar m).toNat] := by
        unfold figs
        rw [Nat.toDigits_of_lt_base hm]
        rfl
      refine ⟨_, _, e, ?_⟩
      have hb : ∀ d : Nat, d < 10 → d ≠ 0 → (Nat.digitChar d).toNat ≠ 48 := by decide
      exact hb m hm h
    · have h1 : m % 10 < 10 := Nat.mod_lt m (by decide)
      have t : Nat.toDigits 10 (m / 10) ++ Nat.toDigits 10 (m % 10) = Nat.toDigits 10 (10 * (m / 10) + m % 10) := Nat.toDigits_append_toDigits (by decide) (by omega) h1
      rw [Nat.div_add_mod] at t
      obtain ⟨c, r, e, hc⟩ := ih (m / 10) (by omega) (by omega)
      refine ⟨c, r ++ figs (m % 10), ?_, hc⟩
      have e2 : figs m = figs (m / 10) ++ figs (m % 10) := by
        unfold figs
        rw [← t, List.map_append]
      rw [e2, e]
      rfl
def numT (i : Int) : Str := Str.ofString (toString i)
theorem numT_pos {i : Int} (h : 0 ≤ i) : (numT i).cps.toList = figs i.natAbs := by
  obtain ⟨m, rfl⟩ := Int.eq_ofNat_of_zero_le h
  show (Str.ofString (toString (Int.ofNat m))).cps.toList = _
  rw [text_ofNat]
  rfl
theorem numT_neg {i : Int} (h : i < 0) : (numT i).cps.toList = 45 :: figs i.natAbs := by
  obtain ⟨m, rfl⟩ := Int.eq_negSucc_of_lt_zero h
  unfold numT
  rw [Str.ofString_eq_toList]
  show (("-" ++ Nat.repr (m + 1)).toList.map Char.toNat) = _
  rw [String.toList_append, List.map_append, Nat.toList_repr]
  rfl
theorem numT_len {i : Int} (h : i.natAbs ≤ 10 ^ 39) : (numT i).length ≤ 41 := by
  have e : (numT i).length = (numT i).cps.toList.length := by
    rw [Array.length_toList]
    rfl
  have l := figs_len h
  rw [e]
  by_cases hi : 0 ≤ i
  · rw [numT_pos hi]
    omega
  · rw [numT_neg (by omega)]
    simp only [List.length_cons]
    omega
theorem numT_reads {i : Int} (h : i.natAbs ≤ 10 ^ 39) : intText? (numT i) = some i := by
  have l := numT_len h
  by_cases hi : 0 ≤ i
  · have e := intText_digits (x := numT i) (by rw [numT_pos hi]; exact figs_dig _) (by rw [numT_pos hi]; exact figs_ne _) (by omega)
    rw [e, numT_pos hi]
    unfold figs
    rw [PySem.W.KIN.val_back]
    congr 1
    omega
  · have e := intText_neg (x := numT i) (numT_neg (by omega)) (figs_dig _) (figs_ne _) (by omega)
    rw [e]
    unfold figs
    rw [PySem.W.KIN.val_back]
    congr 1
    omega
/-! ### expressions, without a program -/
inductive Ex where
  | num (w k : Nat)
  | nm (t : Str)
  | not (a : Ex)
  | pick (a b c : Ex)
  | cut (w : Nat) (a : Ex)
  | bit (k : Nat) (a : Ex)
  | two (o : Fin 7) (a b : Ex)
def twoS : Fin 7 → Str
  | 0 => "and"
  | 1 => "or"
  | 2 => "xor"
  | 3 => "sum"
  | 4 => "same"
  | 5 => "below"
  | 6 => "join"
def Ex.toD : Ex → D
  | .num w k => .tuple [.str "num", .int (w : Int), .int (k : Int)]
  | .nm t => .tuple [.str "name", .str t]
  | .not a => .tuple [.str "not", a.toD]
  | .pick a b c => .tuple [.str "pick", a.toD, b.toD, c.toD]
  | .cut w a => .tuple [.str "cut", .int (w : Int), a.toD]
  | .bit k a => .tuple [.str "bit", .int (k : Int), a.toD]
  | .two o a b => .tuple [.str (twoS o), a.toD, b.toD]
def nT (k : Nat) : Str := numT (k : Int)
def Ex.words : Ex → List Str
  | .num w k => ["num", nT w, nT k]
  | .nm t => [t]
  | .not a => "not" :: a.words
  | .pick a b c => "pick" :: (a.words ++ (b.words ++ c.words))
  | .cut w a => "cut" :: nT w :: a.words
  | .bit k a => "bit" :: nT k :: a.words
  | .two o a b => twoS o :: (a.words ++ b.words)
def placeD (r p : Nat) : D := .tuple [.int (r : Int), .int (p : Int)]
def Ex.tree (r : Nat) : Nat → Ex → D
  | p, .num w k => .tuple [.str "num", placeD r p, .int (w : Int), .int (k : Int)]
  | p, .nm t => .tuple [.str "name", placeD r p, .str t]
  | p, .not a => .tuple [.str "not", placeD r p, a.tree r (p + 1)]
  | p, .pick a b c => .tuple [.str "pick", placeD r p, a.tree r (p + 1), b.tree r (p + 1 + a.words.length), c.tree r (p + 1 + a.words.length + b.words.length)]
  | p, .cut w a => .tuple [.str "cut", placeD r p, .int (w : Int), a.tree r (p + 1 + 1)]
  | p, .bit k a => .tuple [.str "bit", placeD r p, .int (k : Int), a.tree r (p + 1 + 1)]
  | p, .two o a b => .tuple [.str (twoS o), placeD r p, a.tree r (p + 1), b.tree r (p + 1 + a.words.length)]
def Ex.dep : Ex → Nat
  | .num _ _ => 1
  | .nm _ => 1
  | .not a => a.dep + 1
  | .pick a b c => max a.dep (max b.dep c.dep) + 1
  | .cut _ a => a.dep + 1
  | .bit _ a => a.dep + 1
  | .two _ a b => max a.dep b.dep + 1
def Ex.ops : Ex → Nat
  | .num _ _ => 0
  | .nm _ => 0
  | .not a => a.ops + 1
  | .pick a b c => a.ops + b.ops + c.ops + 1
  | .cut _ a => a.ops + 1
  | .bit _ a => a.ops + 1
  | .two _ a b => a.ops + b.ops + 1
theorem Ex.dep_pos (e : Ex) : 1 ≤ e.dep := by cases e <;> simp [Ex.dep]
theorem Ex.wlen (e : Ex) : 1 ≤ e.words.length ∧ e.words.length ≤ 7 * e.ops + 3 := by
  induction e with
  | num w k => exact ⟨by simp [Ex.words], by simp [Ex.words, Ex.ops]⟩
  | nm t => exact ⟨by simp [Ex.words], by simp [Ex.words, Ex.ops]⟩
  | not a ih => simp only [Ex.words, Ex.ops, List.length_cons]; omega
  | pick a b c i1 i2 i3 => simp only [Ex.words, Ex.ops, List.length_cons, List.length_append]; omega
  | cut w a ih => simp only [Ex.words, Ex.ops, List.length_cons]; omega
  | bit k a ih => simp only [Ex.words, Ex.ops, List.length_cons]; omega
  | two o a b i1 i2 => simp only [Ex.words, Ex.ops, List.length_cons, List.length_append]; omega
/-- a part of an expression, of a row: a number, an expression, a name, a name as an expression -/
inductive Pt where
  | n (k : Nat)
  | e (x : Ex)
  | nme (z : Str)
  | ref (z : Str)
def Pt.toD : Pt → D
  | .n k => .int (k : Int)
  | .e x => x.toD
  | .nme z => .str z
  | .ref z => .tuple [.str "name", .str z]
def Pt.words : Pt → List Str
  | .n k => [nT k]
  | .e x => x.words
  | .nme z => [z]
  | .ref z => [z]
def Pt.tree (r p : Nat) : Pt → D
  | .n k => .int (k : Int)
  | .e x => x.tree r p
  | .nme z => .str z
  | .ref z => .tuple [.str "name", placeD r p, .str z]
def wordsP (ps : List Pt) : List Str := ps.flatMap Pt.words
def treeP (r : Nat) : Nat → List Pt → List D
  | _, [] => []
  | p, x :: ps => x.tree r p :: treeP r (p + x.words.length) ps
/-- the word of an expression that isn't a name, its parts, their kinds -/
def Ex.word : Ex → Str
  | .num _ _ => "num"
  | .nm _ => "name"
  | .not _ => "not"
  | .pick _ _ _ => "pick"
  | .cut _ _ => "cut"
  | .bit _ _ => "bit"
  | .two o _ _ => twoS o
def Ex.parts : Ex → List Pt
  | .num w k => [.n w, .n k]
  | .nm _ => []
  | .not a => [.e a]
  | .pick a b c => [.e a, .e b, .e c]
  | .cut w a => [.n w, .e a]
  | .bit k a => [.n k, .e a]
  | .two _ a b => [.e a, .e b]
def Ex.isNm : Ex → Bool
  | .nm _ => true
  | _ => false
theorem Ex.toD_eq {e : Ex} (h : e.isNm = false) : e.toD = .tuple (.str e.word :: e.parts.map Pt.toD) := by
  cases e <;> first | rfl | cases h
theorem Ex.words_eq {e : Ex} (h : e.isNm = false) : e.words = e.word :: wordsP e.parts := by
  cases e <;> first | (simp [Ex.words, Ex.word, Ex.parts, wordsP, Pt.words]; done) | cases h
theorem Ex.tree_eq {e : Ex} (h : e.isNm = false) (r p : Nat) : e.tree r p = .tuple (.str e.word :: placeD r p :: treeP r (p + 1) e.parts) := by
  cases e <;> first | rfl | cases h
theorem treeP_len (r : Nat) : ∀ (ps : List Pt) (p : Nat), (treeP r p ps).length = ps.length
  | [], _ => rfl
  | x :: ps, p => by rw [treeP, List.length_cons, treeP_len r ps, List.length_cons]
theorem wordsP_snoc (ps : List Pt) (x : Pt) : wordsP (ps ++ [x]) = wordsP ps ++ x.words := by
  unfold wordsP
  rw [List.flatMap_append, List.flatMap_cons, List.flatMap_nil, List.append_nil]
theorem treeP_snoc (r : Nat) (x : Pt) : ∀ (ps : List Pt) (p : Nat), treeP r p (ps ++ [x]) = treeP r p ps ++ [x.tree r (p + (wordsP ps).length)]
  | [], p => by
    show [x.tree r p] = [x.tree r (p + 0)]
    rw [Nat.add_zero]
  | y :: ps, p => by
    rw [List.cons_append, treeP, treeP, treeP_snoc r x ps, List.cons_append]
    have e : p + y.words.length + (wordsP ps).length = p + (wordsP (y :: ps)).length := by
      unfold wordsP
      rw [List.flatMap_cons, List.length_append]
      omega
    rw [e]
theorem wordsP_cons (x : Pt) (ps : List Pt) : wordsP (x :: ps) = x.words ++ wordsP ps := by
  unfold wordsP
  rw [List.flatMap_cons]
end L05
namespace L05
open PySem PySem.Spec PyProof.Rows L2 DL
theorem at0 {α : Type} (c : α) (r : List α) : atI (c :: r) 0 = some c := by
  obtain ⟨x, e, _, e'⟩ := atI_lt (xs := c :: r) (i := 0) (by omega) (by rw [List.length_cons]; omega)
  have : some c = some x := e'
  rw [e, this]
/-! ### names that are told -/
def TnOk (t : Str) : Prop := NmOk t ∨ ∃ a b, NmOk a ∧ NmOk b ∧ t = a ++ ("." ++ b)
theorem let_ne : ∀ c ∈ letters.cps.toList, c ≠ 46 ∧ c ≠ 32 ∧ c ≠ 10 ∧ c < 256 := by decide +kernel
theorem nm_dot {z : Str} (h : NmOk z) : 46 ∉ TL.tl z := fun m => by
  have := nm_signs h
  rw [List.all_eq_true] at this
  have hm := of_decide_eq_true (this 46 m)
  exact (let_ne 46 hm).1 rfl
theorem dot_tl : TL.tl "." = 46 :: [] := by decide +kernel
theorem str_assoc (a b c : Str) : a ++ (b ++ c) = a ++ b ++ c := by
  show (⟨a.cps ++ (b.cps ++ c.cps)⟩ : Str) = ⟨a.cps ++ b.cps ++ c.cps⟩
  rw [Array.append_assoc]
def spTold : List EV → (D → Prop) → Prop := fun as P => ∃ t : Str, as = [.d (.str t)] ∧ TnOk t ∧ P (.bool true)
def spNumIn : List EV → (D → Prop) → Prop := fun as P => ∃ k : Nat, as = [.d (.str (nT k))] ∧ k < 65536 ∧ P (.int (k : Int))
theorem dot_len : ("." : Str).length = 1 := by decide +kernel
theorem tn_len {t : Str} (h : TnOk t) : 1 ≤ t.length ∧ t.length ≤ 13 := by
  rcases h with h | ⟨a, b, ha, hb, rfl⟩
  · have := nm_len h
    omega
  · have := nm_len ha
    have := nm_len hb
    rw [len_app, len_app, dot_len]
    omega
/-- a sign is a figure -/
def figIn : D → Bool
  | .str ⟨a⟩ => match a.toList with
    | [c] => decide (c ∈ figText.cps.toList)
    | _ => false
  | _ => false
theorem figs_all : ∀ (l : List Nat), NumText.AllDigits l → ((l.map fun c => PyData.str ⟨#[c]⟩).filterMap fun x => some (PyData.bool (figIn x))) = l.map fun _ => PyData.bool true
  | [], _ => rfl
  | c :: r, h => by
    have hc := h c (List.mem_cons_self ..)
    have e : figIn (.str ⟨#[c]⟩) = true := by
      show decide (c ∈ figText.cps.toList) = true
      have hb : ∀ d : Nat, d < 58 → 48 ≤ d → d ∈ figText.cps.toList := by decide +kernel
      exact decide_eq_true (hb c (by omega) hc.1)
    rw [List.map_cons, List.filterMap_cons, e, figs_all r fun d hd => h d (List.mem_cons_of_mem _ hd)]
    rfl
theorem bls_true : ∀ l : List Nat, blsD (l.map fun _ => PyData.bool true) = some (l.map fun _ => true)
  | [] => rfl
  | c :: r => by rw [List.map_cons, blsD, bls_true r]; rfl
theorem all_true : ∀ l : List Nat, (l.map fun _ => true).all id = true
  | [] => rfl
  | c :: r => by rw [List.map_cons, List.all_cons, all_true r]; rfl
theorem nT_tl (k : Nat) : (nT k).cps.toList = figs k := numT_pos (by omega)
theorem nT_len {k : Nat} (h : k < 100000) : 1 ≤ (nT k).length ∧ (nT k).length ≤ 5 := by
  have e : (nT k).length = (figs k).length := by rw [← nT_tl, Array.length_toList]; rfl
  rw [e]
  refine ⟨List.length_pos_iff.mpr (figs_ne _), ?_⟩
  unfold figs
  rw [List.length_map]
  exact digits10_le (k := 5) (by decide) (by omega)
theorem nT_reads {k : Nat} (h : k < 100000) : intText? (nT k) = some (k : Int) := numT_reads (by
  have : k ≤ 10 ^ 39 := Nat.le_trans (Nat.le_of_lt h) (by decide)
  simpa using this)
theorem str_65536 : (Str.ofString (toString (65536 : Int))).length = 5 := by decide +kernel
section
variable {P : Program} {w : World} {K : PySem.W.Frag} {mg : Str → Option Value} {base : Heap} {C : Addr} {f : Addr} {fd : FuncData}
theorem ok_is_told_name (T : Tb K w mg C) (c_is_name : Cal P w K mg base "is_name" 1 ["thing"] 0 spIsName) (F : Fun K "is_told_name" "is_told_name" s_is_told_name f fd) : FnG P w K mg base CX0 2 f fd ["word"] (spD K 0 spTold) := by
  have nd := sc_is_told_name.nd
  refine okDG (k := 1) F sc_is_told_name (fun as Q h => by obtain ⟨t, rfl, _⟩ := h; rfl) (fun cdv A fs s H E hr => have hu := hr.rm.units; have hgd := hr.gd; (gss_cons (gs_asg (ge_bm PySem.F.plainAttrs_str PySem.F.slot_str_partition PySem.F.type_str_partition md_partition (ge_var 0) (ga_cons ge_str ga_nil)) (gg_tup (n := 3) rfl (ggs_cons (i := 1) (vs := [1, 2, 3]) nd rfl (.inl rfl) (by decide) (ggs_cons (i := 2) (vs := [1, 2, 3]) nd rfl (.inl rfl) (by decide) (ggs_cons (i := 3) (vs := [1, 2, 3]) nd rfl (.inl rfl) (by decide) ggs_nil)))))
      (gss_one (gs_ret (ge_andV (ge_cal c_is_name (hr.mono (by first | decide | omega)) (by rfl) (ga_cons (ge_var 1) ga_nil)) (pe_one (ge_orV (ge_cmp (od_eq hu) (ge_var 2) ge_str (nomark _)) (pe_one (ge_cal c_is_name (hr.mono (by first | decide | omega)) (by rfl) (ga_cons (ge_var 3) ga_nil)))))))))) (by decide) (fun as Q h => ?_)
  obtain ⟨t, rfl, ht, hQ⟩ := h
  have big := big_size
  have tl := tn_len ht
  refine ⟨rfl, ⟨by decide +kernel, by omega⟩, rfl, rfl, ?_⟩
  rcases ht with h | ⟨a, b, ha, hb, rfl⟩
  · have e := TL.partition_none dot_tl (nm_dot h)
    have hn : isNameD (.str t) = true := h
    refine ⟨_, rfl, fun z hz => ?_, ?_⟩
    · cases hz
      rw [e]
      show t.length ≤ sizeLine
      omega
    rw [e]
    show match PyData.bool (isNameD (.str t)) with | .bool true => _ | .bool false => _ | _ => _
    rw [hn]
    exact hQ
  · have e : Txt.partition (a ++ ("." ++ b)) "." = (a, ("." : Str), b) := by
      rw [str_assoc]
      exact TL.partition_app dot_tl (nm_dot ha)
    have h1 : isNameD (.str a) = true := ha
    have h2 : isNameD (.str b) = true := hb
    have la := nm_len ha
    have lb := nm_len hb
    refine ⟨_, rfl, fun z hz => ?_, ?_⟩
    · cases hz
      rw [e]
      show a.length ≤ sizeLine
      omega
    rw [e]
    show match PyData.bool (isNameD (.str a)) with | .bool true => _ | .bool false => _ | _ => _
    rw [h1]
    show mOrV (fun env k => k (.bool (decide ((".": Str) = ""))) env) _ _ _
    rw [show decide (("." : Str) = "") = false by decide +kernel]
    refine ⟨_, rfl, fun z hz => ?_, ?_⟩
    · cases hz
      show b.length ≤ sizeLine
      omega
    show Q (.bool (isNameD (.str b)))
    rw [h2]
    exact hQ
theorem ok_number_in (T : Tb K w mg C) (F : Fun K "number_in" "number_in" s_number_in f fd) : FnG P w K mg base CX0 1 f fd ["word"] (spD K 0 spNumIn) := by
  have nd := sc_number_in.nd
  refine okDG (k := 0) F sc_number_in (fun as Q h => by obtain ⟨t, rfl, _⟩ := h; rfl) (fun cdv A fs s H E hr => have hu := hr.rm.units; have hgd := hr.gd; (gss_cons (gs_if (PW.pt (gt_or (gt_not (gt_chain od_le od_le ge_int (ge_callB cd_len (by rfl) T.n_len PySem.boot_len (ga_cons (ge_var 0) ga_nil)) (ge_callB cd_len (by rfl) T.n_len PySem.boot_len (ga_cons (ge_callTy cd_str (by rfl) T.n_str (by decide +kernel) (ga_cons (ge_gl T.g_NUMBERS (by rfl)) ga_nil)) ga_nil)))) (pw_or1 (gt_not (gt_val (ge_callB (cd_all rfl) (by rfl) T.n_all boot_all (ga_cons (ge_pub (gf_lc 0 rfl nd (gi_str (ge_var 0)) (blkOk_by (own := [("sign", 1)]) (N := N_number_in) (sc := defScope s_number_in) (by decide +kernel)) (fun _ _ _ _ _ => (gg_name (i := 1) (vs := (List.map (·.2) ([("sign", 1)] : List (Str × Nat)))) nd rfl (.inl rfl) (by decide))) (fun _ _ _ _ _ => gts_nil) (fun _ _ _ _ _ => (ge_cmp od_in (ge_var 1) (ge_gl T.g_FIGURES (by rfl)) (by rfl))))) ga_nil))))))) (gss_one (gs_ret ge_non)) gss_nil)
      (gss_cons (gs_if (PW.pt (gt_or (PW.pt (gt_and (gt_cmp (od_eq hu) (ge_ix od_ix (ge_var 0) ge_int (fun _ _ => rfl)) ge_str (nomark _)) (pw_and1 (gt_cmp (od_ne hu) (ge_var 0) ge_str (nomark _))))) (pw_or1 (gt_cmp od_ge (ge_callTy cd_int (by rfl) T.n_int (by decide +kernel) (ga_cons (ge_var 0) ga_nil)) (ge_gl T.g_NUMBERS (by rfl)) (nomark _))))) (gss_one (gs_ret ge_non)) gss_nil)
      (gss_one (gs_ret (ge_callTy cd_int (by rfl) T.n_int (by decide +kernel) (ga_cons (ge_var 0) ga_nil))))))) (by decide) (fun as Q h => ?_)
  obtain ⟨k, rfl, hk, hQ⟩ := h
  have big := big_size
  have nl := nT_len (k := k) (by omega)
  have hl : (nT k).length ≤ sizeLine := by omega
  have rd := nT_reads (k := k) (by omega)
  refine ⟨hl, ?_⟩
  rw [show env0 N_number_in [.d (.str (nT k))] = [.d (.str (nT k)), .un] from rfl]
  show match decide ((1 : Int) ≤ ((nT k).length : Int)) with | true => _ | false => _
  rw [decide_eq_true (by omega)]
  refine ⟨by decide, by decide, ?_⟩
  show match !decide (((nT k).length : Int) ≤ ((Str.ofString (toString (65536 : Int))).length : Int)) with | true => _ | false => _
  rw [str_65536, decide_eq_true (by omega)]
  refine ⟨Nat.le_of_eq (Nat.mul_zero _), fun j hj w c => ?_, ?_⟩
  · have : j = 1 := by simpa using hj
    subst this
    simp
  refine lcl_fun (fun x => some (.bool (figIn x))) _ _ (fun x hx k hk => ?_) ?_ ?_
  · obtain ⟨c, hc, rfl⟩ := List.mem_map.mp hx
    exact ⟨rfl, rfl, hk⟩
  · rw [strD_len, List.length_nil, Nat.zero_add]
    exact hl
  · rw [List.nil_append]
    have e3 : (strD (nT k)).filterMap (fun x => some (PyData.bool (figIn x))) = (figs k).map fun _ => PyData.bool true := by
      unfold strD
      rw [nT_tl]
      exact figs_all _ (figs_dig _)
    rw [e3]
    dsimp only [mNil, mDats, dats, Option.map, dAll]
    rw [bls_true]
    dsimp only
    rw [all_true]
    obtain ⟨c, r, ec⟩ : ∃ c r, figs k = c :: r := by
      cases e : figs k with
      | nil => exact absurd e (figs_ne k)
      | cons c r => exact ⟨c, r, rfl⟩
    have hA : ∀ Pc : Bool → DEnv → Prop, Pc false [.d (.str (nT k)), .un] → mAndT (mCmpT cEq (mOp dIx (mVar 0) (mC (.int 0))) (mC (.str "0"))) (mCmpT cNe (mVar 0) (mC (.str "0"))) [.d (.str (nT k)), .un] Pc := fun Pc hP => by
      refine ⟨hl, c, ?_, ?_⟩
      · rw [nT_tl, ec]
        exact at0 c r
      · show match decide ((⟨#[c]⟩ : Str) = "0") with | true => mCmpT cNe (mVar 0) (mC (.str "0")) [.d (.str (nT k)), .un] Pc | false => Pc false [.d (.str (nT k)), .un]
        by_cases h0 : (⟨#[c]⟩ : Str) = "0"
        · rw [decide_eq_true h0]
          have k0 : k = 0 := by
            refine Classical.byContradiction fun nz => ?_
            obtain ⟨c', r', ec', hc'⟩ := figs_lead k nz
            rw [ec] at ec'
            cases ec'
            have := congrArg (fun q : Str => q.cps.toList) h0
            have e0 : (("0" : Str)).cps.toList = [48] := by decide +kernel
            simp only [e0] at this
            exact hc' (by simpa using this)
          subst k0
          show Pc (!decide (nT 0 = "0")) _
          rw [show decide (nT 0 = "0") = true by decide +kernel]
          exact hP
        · rw [decide_eq_false h0]
          exact hP
    refine hA _ ?_
    refine ⟨_, rd, by omega, ?_⟩
    show match decide ((65536 : Int) ≤ (k : Int)) with | true => _ | false => _
    rw [decide_eq_false (by omega)]
    exact ⟨_, rd, by omega, hQ⟩
end
end L05
namespace L05
open PySem PySem.Spec PyProof.Rows L2 DL
/-! ### the reader of a row -/
abbrev rdF (r : Nat) (ws : List Str) (p : Nat) : List (Str × D) := [("row_here", .int (r : Int)), ("words", .list (ws.map PyData.str)), ("taken", .int (p : Int))]
abbrev rdr (C : Addr) (r : Nat) (ws : List Str) (p : Nat) : SC := .ins C (rdF r ws p)
theorem k1 : (("words" : Str) == "row_here") = false := by decide +kernel
theorem k2 : (("taken" : Str) == "row_here") = false := by decide +kernel
theorem k3 : (("taken" : Str) == "words") = false := by decide +kernel
theorem n1 : ¬ (("row_here" : Str) = "words") := by decide +kernel
theorem n2 : ¬ (("row_here" : Str) = "taken") := by decide +kernel
theorem n3 : ¬ (("words" : Str) = "taken") := by decide +kernel
theorem rd_row (r : Nat) (ws : List Str) (p : Nat) : (rdF r ws p).lookup ("row_here" : Str) = some (.int (r : Int)) := by rw [List.lookup_cons, beq_self_eq_true]
theorem rd_words (r : Nat) (ws : List Str) (p : Nat) : (rdF r ws p).lookup ("words" : Str) = some (.list (ws.map PyData.str)) := by rw [List.lookup_cons, k1, List.lookup_cons, beq_self_eq_true]
theorem rd_taken (r : Nat) (ws : List Str) (p : Nat) : (rdF r ws p).lookup ("taken" : Str) = some (.int (p : Int)) := by rw [List.lookup_cons, k2, List.lookup_cons, k3, List.lookup_cons, beq_self_eq_true]
theorem rd_no {m : Str} (h : (m == "row_here") = false ∧ (m == "words") = false ∧ (m == "taken") = false) (r : Nat) (ws : List Str) (p : Nat) : (rdF r ws p).lookup m = none := by
  rw [List.lookup_cons, h.1, List.lookup_cons, h.2.1, List.lookup_cons, h.2.2]
  rfl
theorem rd_put (r : Nat) (ws : List Str) (p : Nat) : putFD "taken" (.int ((p : Int) + 1)) (rdF r ws p) = rdF r ws (p + 1) := by
  rw [putFD, if_neg n2, putFD, if_neg n3, putFD, if_pos rfl]
  rfl
theorem rd_init (r : Nat) (ws : List Str) : putFD "taken" (.int 0) (putFD "words" (.list (ws.map PyData.str)) (putFD "row_here" (.int (r : Int)) [])) = rdF r ws 0 := by
  rw [putFD, putFD, if_neg n1, putFD, putFD, if_neg n2, putFD, if_neg n3, putFD]
  rfl
theorem m_pl : (("place_now" : Str) == "row_here") = false ∧ (("place_now" : Str) == "words") = false ∧ (("place_now" : Str) == "taken") = false := by decide +kernel
theorem m_en : (("is_at_end" : Str) == "row_here") = false ∧ (("is_at_end" : Str) == "words") = false ∧ (("is_at_end" : Str) == "taken") = false := by decide +kernel
theorem m_mu : (("must" : Str) == "row_here") = false ∧ (("must" : Str) == "words") = false ∧ (("must" : Str) == "taken") = false := by decide +kernel
theorem m_pe : (("peeked" : Str) == "row_here") = false ∧ (("peeked" : Str) == "words") = false ∧ (("peeked" : Str) == "taken") = false := by decide +kernel
theorem m_na : (("name_taken" : Str) == "row_here") = false ∧ (("name_taken" : Str) == "words") = false ∧ (("name_taken" : Str) == "taken") = false := by decide +kernel
theorem m_nu : (("number_taken" : Str) == "row_here") = false ∧ (("number_taken" : Str) == "words") = false ∧ (("number_taken" : Str) == "taken") = false := by decide +kernel
theorem m_pa : (("part_taken" : Str) == "row_here") = false ∧ (("part_taken" : Str) == "words") = false ∧ (("part_taken" : Str) == "taken") = false := by decide +kernel
theorem m_ex : (("expression_taken" : Str) == "row_here") = false ∧ (("expression_taken" : Str) == "words") = false ∧ (("expression_taken" : Str) == "taken") = false := by decide +kernel
theorem m_us : (("use_taken" : Str) == "row_here") = false ∧ (("use_taken" : Str) == "words") = false ∧ (("use_taken" : Str) == "taken") = false := by decide +kernel
theorem m_ro : (("row_taken" : Str) == "row_here") = false ∧ (("row_taken" : Str) == "words") = false ∧ (("row_taken" : Str) == "taken") = false := by decide +kernel
def spIni (C : Addr) : SpM := fun as P => ∃ (r : Nat) (ws : List Str), as = [.mo (some 0) (.ins C []), .d (.int (r : Int)), .d (.list (ws.map PyData.str))] ∧ P .none [rdr C r ws 0]
def spPl (C : Addr) : SpM := fun as P => ∃ (r : Nat) (ws : List Str) (p : Nat), as = [.mo (some 0) (rdr C r ws p)] ∧ P (placeD r p) [rdr C r ws p]
def spEn (C : Addr) : SpM := fun as P => ∃ (r : Nat) (ws : List Str) (p : Nat), as = [.mo (some 0) (rdr C r ws p)] ∧ P (.bool (decide (p = ws.length))) [rdr C r ws p]
def spMu (C : Addr) : SpM := fun as P => ∃ (r : Nat) (ws : List Str) (p : Nat), as = [.mo (some 0) (rdr C r ws p), .d (.bool true)] ∧ P .none [rdr C r ws p]
def spPe (C : Addr) : SpM := fun as P => ∃ (r : Nat) (ws : List Str) (p : Nat) (wd : Str), as = [.mo (some 0) (rdr C r ws p)] ∧ ws[p]? = some wd ∧ P (.str wd) [rdr C r ws p]
def spNa (C : Addr) : SpM := fun as P => ∃ (r : Nat) (ws : List Str) (p : Nat) (wd : Str), as = [.mo (some 0) (rdr C r ws p)] ∧ ws[p]? = some wd ∧ NmOk wd ∧ P (.str wd) [rdr C r ws (p + 1)]
def spNu (C : Addr) : SpM := fun as P => ∃ (r : Nat) (ws : List Str) (p k : Nat) (lo hi : Int), as = [.mo (some 0) (rdr C r ws p), .d (.int lo), .d (.int hi)] ∧ ws[p]? = some (nT k) ∧ k < 65536 ∧ lo ≤ (k : Int) ∧ (k : Int) ≤ hi ∧ P (.int (k : Int)) [rdr C r ws (p + 1)]
theorem ws_at {ws : List Str} {p : Nat} {wd : Str} (h : ws[p]? = some wd) : atI (ws.map PyData.str) (p : Int) = some (.str wd) := by
  have hl := (List.getElem?_eq_some_iff.mp h).1
  obtain ⟨x, e, _, e'⟩ := atI_lt (xs := ws.map PyData.str) (i := (p : Int)) (by omega) (by rw [List.length_map]; omega)
  have e' : (ws.map PyData.str)[p]? = some x := e'
  rw [List.getElem?_map, h] at e'
  rw [e, ← e']
  rfl
section
variable {P : Program} {w : World} {K : PySem.W.Frag} {mg : Str → Option Value} {base : Heap} {C : Addr} {f : Addr} {fd : FuncData}
theorem ok_RowReader_init (T : Tb K w mg C) (F : Fun K "__init__" "RowReader.__init__" s_RowReader_init f fd) : FnG P w K mg base CX0 1 f fd ["self", "row", "words"] (spDM K 0 (spIni C)) := by
  have nd := sc_RowReader_init.nd
  refine okDM (k := 0) F sc_RowReader_init (fun as Q h => by obtain ⟨r, ws, rfl, _⟩ := h; rfl) (fun cdv A fs s H E hr => have hu := hr.rm.units; have hgd := hr.gd; (gss_cons (gs_fldM C 0 T.cl T.na_row_here (ge_var 1))
      (gss_cons (gs_fldM C 0 T.cl T.na_words (ge_var 2))
      (gss_one (gs_fldM C 0 T.cl T.na_taken ge_int))))) (by decide) (fun as Q h => ?_)
  obtain ⟨r, ws, rfl, hQ⟩ := h
  refine ⟨rfl, by decide, rfl, ?_, rfl, ?_, ?_⟩
  · show (putFD "row_here" _ []).length < 1000
    simp [putFD]
  · show (putFD "words" _ (putFD "row_here" _ [])).length < 1000
    simp [putFD, n1]
  · show ∃ cs, finM _ [.mo (some 0) (.ins C (putFD "taken" (.int 0) (putFD "words" (.list (ws.map PyData.str)) (putFD "row_here" (.int (r : Int)) [])))), _, _] = some cs ∧ _
    rw [rd_init]
    exact ⟨_, rfl, hQ⟩
theorem ok_RowReader_place_now (T : Tb K w mg C) (F : Fun K "place_now" "RowReader.place_now" s_RowReader_place_now f fd) : FnG P w K mg base CX0 1 f fd ["self"] (spDM K 0 (spPl C)) := by
  have nd := sc_RowReader_place_now.nd
  refine okDM (k := 0) F sc_RowReader_place_now (fun as Q h => by obtain ⟨r, ws, p, rfl, _⟩ := h; rfl) (fun cdv A fs s H E hr => have hu := hr.rm.units; have hgd := hr.gd; (gss_one (gs_ret (ge_tup (ga_cons (ge_fld C 0 T.cl T.na_row_here) (ga_cons (ge_fld C 0 T.cl T.na_taken) ga_nil)))))) (by decide) (fun as Q h => ?_)
  obtain ⟨r, ws, p, rfl, hQ⟩ := h
  exact ⟨rfl, _, rd_row r ws p, rfl, _, rd_taken r ws p, (show (2 : Nat) ≤ sizeLine by decide), _, rfl, hQ⟩
theorem ok_RowReader_is_at_end (T : Tb K w mg C) (F : Fun K "is_at_end" "RowReader.is_at_end" s_RowReader_is_at_end f fd) : FnG P w K mg base CX0 1 f fd ["self"] (spDM K 0 (spEn C)) := by
  have nd := sc_RowReader_is_at_end.nd
  refine okDM (k := 0) F sc_RowReader_is_at_end (fun as Q h => by obtain ⟨r, ws, p, rfl, _⟩ := h; rfl) (fun cdv A fs s H E hr => have hu := hr.rm.units; have hgd := hr.gd; (gss_one (gs_ret (ge_cmp (od_eq hu) (ge_fld C 0 T.cl T.na_taken) (ge_callB cd_len (by rfl) T.n_len PySem.boot_len (ga_cons (ge_fld C 0 T.cl T.na_words) ga_nil)) (nomark _))))) (by decide) (fun as Q h => ?_)
  obtain ⟨r, ws, p, rfl, hQ⟩ := h
  refine ⟨rfl, _, rd_taken r ws p, rfl, _, rd_words r ws p, _, rfl, ?_⟩
  have e : decide ((p : Int) = (((ws.map PyData.str).length : Nat) : Int)) = decide (p = ws.length) := by
    rw [List.length_map]
    exact decide_eq_decide.mpr ⟨fun h => by omega, fun h => by omega⟩
  rw [e]
  exact hQ
theorem ok_RowReader_must (T : Tb K w mg C) (F : Fun K "must" "RowReader.must" s_RowReader_must f fd) : FnG P w K mg base CX0 1 f fd ["self", "good"] (spDM K 0 (spMu C)) := by
  have nd := sc_RowReader_must.nd
  refine okDM (k := 0) F sc_RowReader_must (fun as Q h => by obtain ⟨r, ws, p, rfl, _⟩ := h; rfl) (fun cdv A fs s H E hr => have hu := hr.rm.units; have hgd := hr.gd; (gss_one (gs_if (gt_not (gt_val (ge_var 1))) (gss_one gs_never) gss_nil))) (by decide) (fun as Q h => ?_)
  obtain ⟨r, ws, p, rfl, hQ⟩ := h
  exact ⟨_, rfl, hQ⟩
theorem ok_RowReader_peeked (T : Tb K w mg C) (m_must : MthM P w K mg base C "must" 1 ["self", "good"] 0 (spMu C)) (m_is_at_end : MthM P w K mg base C "is_at_end" 1 ["self"] 0 (spEn C))
    (F : Fun K "peeked" "RowReader.peeked" s_RowReader_peeked f fd) : FnG P w K mg base CX0 2 f fd ["self"] (spDM K 0 (spPe C)) := by
  have nd := sc_RowReader_peeked.nd
  refine okDM (k := 1) F sc_RowReader_peeked (fun as Q h => by obtain ⟨r, ws, p, wd, rfl, _⟩ := h; rfl) (fun cdv A fs s H E hr => have hu := hr.rm.units; have hgd := hr.gd; (gss_cons (gs_expr (ge_mth 0 (pl := _) m_must T.cl (hr.mono (by first | decide | omega)) (gb_cons (ge_notV (ge_mth0 0 (pl := _) m_is_at_end T.cl (hr.mono (by first | decide | omega)))) gb_nil)))
      (gss_one (gs_ret (ge_ix od_ix (ge_fld C 0 T.cl T.na_words) (ge_fld C 0 T.cl T.na_taken) (fun _ _ => rfl)))))) (by decide) (fun as Q h => ?_)
  obtain ⟨r, ws, p, wd, rfl, hw, hQ⟩ := h
  have hl := (List.getElem?_eq_some_iff.mp hw).1
  have nn : ([0] : List Nat).Nodup := by decide
  refine ⟨rfl, rd_no m_mu r ws p, rfl, rd_no m_en r ws p, nn, _, rfl, r, ws, p, rfl, ?_⟩
  rw [decide_eq_false (by omega)]
  refine ⟨nn, _, rfl, r, ws, p, rfl, rfl, _, rd_words r ws p, rfl, _, rd_taken r ws p, _, ws_at hw, _, rfl, hQ⟩
theorem ok_RowReader_name_taken (T : Tb K w mg C) (m_must : MthM P w K mg base C "must" 1 ["self", "good"] 0 (spMu C)) (m_peeked : MthM P w K mg base C "peeked" 2 ["self"] 0 (spPe C)) (c_is_name : Cal P w K mg base "is_name" 1 ["thing"] 0 spIsName)
    (F : Fun K "name_taken" "RowReader.name_taken" s_RowReader_name_taken f fd) : FnG P w K mg base CX0 3 f fd ["self"] (spDM K 0 (spNa C)) := by
  have nd := sc_RowReader_name_taken.nd
  refine okDM (k := 2) F sc_RowReader_name_taken (fun as Q h => by obtain ⟨r, ws, p, wd, rfl, _⟩ := h; rfl) (fun cdv A fs s H E hr => have hu := hr.rm.units; have hgd := hr.gd; (gss_cons (gs_set (i := 1) nd rfl (.inl rfl) (ge_mth0 0 (pl := _) m_peeked T.cl (hr.mono (by first | decide | omega))))
      (gss_cons (gs_expr (ge_mth 0 (pl := _) m_must T.cl (hr.mono (by first | decide | omega)) (gb_cons (ge_cal c_is_name (hr.mono (by first | decide | omega)) (by rfl) (ga_cons (ge_var 1) ga_nil)) gb_nil)))
      (gss_cons (gs_fldI C 0 T.cl T.na_taken ge_int)
      (gss_one (gs_ret (ge_var 1))))))) (by decide) (fun as Q h => ?_)
  obtain ⟨r, ws, p, wd, rfl, hw, hn, hQ⟩ := h
  have nn : ([0] : List Nat).Nodup := by decide
  have big := big_size
  have nl := nm_len hn
  have hn1 : isNameD (.str wd) = true := hn
  refine ⟨rfl, rd_no m_pe r ws p, nn, _, rfl, r, ws, p, wd, rfl, hw, ?_⟩
  refine ⟨rfl, rd_no m_mu r ws p, _, rfl, fun z hz => by cases hz; omega, nn, _, rfl, r, ws, p, ?_, ?_⟩
  · rw [hn1]
  refine ⟨rfl, _, rd_taken r ws p, rfl, (show (3 : Nat) < 1000 by decide), ?_⟩
  show ∃ cs, finM _ [.mo (some 0) (.ins C (putFD "taken" (.int ((p : Int) + 1)) (rdF r ws p))), _] = some cs ∧ _
  rw [rd_put]
  exact ⟨_, rfl, hQ⟩
theorem ok_RowReader_number_taken (T : Tb K w mg C) (m_must : MthM P w K mg base C "must" 1 ["self", "good"] 0 (spMu C)) (m_peeked : MthM P w K mg base C "peeked" 2 ["self"] 0 (spPe C)) (c_number_in : Cal P w K mg base "number_in" 1 ["word"] 0 spNumIn)
    (F : Fun K "number_taken" "RowReader.number_taken" s_RowReader_number_taken f fd) : FnG P w K mg base CX0 3 f fd ["self", "least", "most"] (spDM K 0 (spNu C)) := by
  have nd := sc_RowReader_number_taken.nd
  refine okDM (k := 2) F sc_RowReader_number_taken (fun as Q h => by obtain ⟨r, ws, p, k, lo, hi, rfl, _⟩ := h; rfl) (fun cdv A fs s H E hr => have hu := hr.rm.units; have hgd := hr.gd; (gss_cons (gs_set (i := 3) nd rfl (.inl rfl) (ge_cal c_number_in (hr.mono (by first | decide | omega)) (by rfl) (ga_cons (ge_mth0 0 (pl := _) m_peeked T.cl (hr.mono (by first | decide | omega))) ga_nil)))
      (gss_cons (gs_expr (ge_mth 0 (pl := _) m_must T.cl (hr.mono (by first | decide | omega)) (gb_cons (ge_andV (ge_cmp od_notN (ge_var 3) ge_non (nomark _)) (pe_one (ge_chain od_le od_le (ge_var 1) (ge_var 3) (ge_var 2)))) gb_nil)))
      (gss_cons (gs_fldI C 0 T.cl T.na_taken ge_int)
      (gss_one (gs_ret (ge_var 3))))))) (by decide) (fun as Q h => ?_)
  obtain ⟨r, ws, p, k, lo, hi, rfl, hw, hk, h1, h2, hQ⟩ := h
  have nn : ([0] : List Nat).Nodup := by decide
  refine ⟨rfl, rd_no m_pe r ws p, nn, _, rfl, r, ws, p, _, rfl, hw, k, rfl, hk, ?_⟩
  refine ⟨rfl, rd_no m_mu r ws p, ?_⟩
  show match decide (lo ≤ (k : Int)) with | true => _ | false => _
  rw [decide_eq_true h1]
  refine ⟨nn, _, rfl, r, ws, p, ?_, ?_⟩
  · show [EV.mo (some 0) (rdr C r ws p), EV.d (.bool (decide ((k : Int) ≤ hi)))] = _
    rw [decide_eq_true h2]
  refine ⟨rfl, _, rd_taken r ws p, rfl, (show (3 : Nat) < 1000 by decide), ?_⟩
  show ∃ cs, finM _ [.mo (some 0) (.ins C (putFD "taken" (.int ((p : Int) + 1)) (rdF r ws p))), _, _, _] = some cs ∧ _
  rw [rd_put]
  exact ⟨_, rfl, hQ⟩
end
end L05
namespace L05
open PySem PySem.Spec PyProof.Rows L2 DL
/-! ### which expressions are read -/
def Ex.ok : Ex → Prop
  | .num w k => 1 ≤ w ∧ w ≤ 8 ∧ k < 65536
  | .nm t => TnOk t
  | .not a => a.ok
  | .pick a b c => a.ok ∧ b.ok ∧ c.ok
  | .cut w a => (1 ≤ w ∧ w ≤ 8) ∧ a.ok
  | .bit k a => k < 65536 ∧ a.ok
  | .two _ a b => a.ok ∧ b.ok
def KOk (c : Nat) : Pt → Prop
  | .nme z => c = 120 ∧ NmOk z
  | .n k => (c = 119 ∧ 1 ≤ k ∧ k ≤ 8) ∨ (c = 107 ∧ k < 65536)
  | .ref z => c = 110 ∧ NmOk z
  | .e x => c = 101 ∧ x.ok
def KsOk : List Nat → List Pt → Prop
  | [], [] => True
  | c :: cs, p :: ps => KOk c p ∧ KsOk cs ps
  | _, _ => False
def Pt.dep : Pt → Nat
  | .e x => x.dep
  | _ => 0
theorem t_wk : ("wk" : Str).cps.toList = [119, 107] := by decide +kernel
theorem t_e : ("e" : Str).cps.toList = [101] := by decide +kernel
theorem t_ee : ("ee" : Str).cps.toList = [101, 101] := by decide +kernel
theorem t_eee : ("eee" : Str).cps.toList = [101, 101, 101] := by decide +kernel
theorem t_we : ("we" : Str).cps.toList = [119, 101] := by decide +kernel
theorem t_ke : ("ke" : Str).cps.toList = [107, 101] := by decide +kernel
def isS : Option D → Str → Bool
  | some (.str t), s => decide (t = s)
  | _, _ => false
theorem isS_eq {o : Option D} {s : Str} (h : isS o s = true) : o = some (.str s) := by
  unfold isS at h
  split at h
  · rw [of_decide_eq_true h]
  · cases h
theorem two_eeB : ∀ o : _root_.Fin 7, isS (exprG.lookup (twoS o)) "ee" = true := by decide +kernel
theorem two_ee (o : _root_.Fin 7) : exprG.lookup (twoS o) = some (.str "ee") := isS_eq (two_eeB o)
theorem l_num : exprG.lookup ("num" : Str) = some (.str "wk") := isS_eq (by decide +kernel)
theorem l_not : exprG.lookup ("not" : Str) = some (.str "e") := isS_eq (by decide +kernel)
theorem l_pick : exprG.lookup ("pick" : Str) = some (.str "eee") := isS_eq (by decide +kernel)
theorem l_cut : exprG.lookup ("cut" : Str) = some (.str "we") := isS_eq (by decide +kernel)
theorem l_bit : exprG.lookup ("bit" : Str) = some (.str "ke") := isS_eq (by decide +kernel)
theorem ex_shape {e : Ex} (h : e.isNm = false) (ho : e.ok) : ∃ sh : Str, exprG.lookup e.word = some (.str sh) ∧ KsOk sh.cps.toList e.parts ∧ ∀ pt ∈ e.parts, pt.dep + 1 ≤ e.dep := by
  cases e with
  | nm t => cases h
  | num w k =>
    refine ⟨"wk", l_num, ?_, fun pt hp => ?_⟩
    · rw [t_wk]
      exact ⟨.inl ⟨rfl, ho.1, ho.2.1⟩, .inr ⟨rfl, ho.2.2⟩, trivial⟩
    · simp only [Ex.parts, List.mem_cons, List.not_mem_nil, or_false] at hp
      rcases hp with rfl | rfl <;> simp [Pt.dep, Ex.dep]
  | not a =>
    refine ⟨"e", l_not, ?_, fun pt hp => ?_⟩
    · rw [t_e]
      exact ⟨⟨rfl, ho⟩, trivial⟩
    · simp only [Ex.parts, List.mem_cons, List.not_mem_nil, or_false] at hp
      subst hp
      simp [Pt.dep, Ex.dep]
  | pick a b c =>
    refine ⟨"eee", l_pick, ?_, fun pt hp => ?_⟩
    · rw [t_eee]
      exact ⟨⟨rfl, ho.1⟩, ⟨rfl, ho.2.1⟩, ⟨rfl, ho.2.2⟩, trivial⟩
    · simp only [Ex.parts, List.mem_cons, List.not_mem_nil, or_false] at hp
      rcases hp with rfl | rfl | rfl <;> simp only [Pt.dep, Ex.dep] <;> omega
  | cut w a =>
    refine ⟨"we", l_cut, ?_, fun pt hp => ?_⟩
    · rw [t_we]
      exact ⟨.inl ⟨rfl, ho.1⟩, ⟨rfl, ho.2⟩, trivial⟩
    · simp only [Ex.parts, List.mem_cons, List.not_mem_nil, or_false] at hp
      rcases hp with rfl | rfl <;> simp only [Pt.dep, Ex.dep] <;> omega
  | bit k a =>
    refine ⟨"ke", l_bit, ?_, fun pt hp => ?_⟩
    · rw [t_ke]
      exact ⟨.inr ⟨rfl, ho.1⟩, ⟨rfl, ho.2⟩, trivial⟩
    · simp only [Ex.parts, List.mem_cons, List.not_mem_nil, or_false] at hp
      rcases hp with rfl | rfl <;> simp only [Pt.dep, Ex.dep] <;> omega
  | two o a b =>
    refine ⟨"ee", two_ee o, ?_, fun pt hp => ?_⟩
    · rw [t_ee]
      exact ⟨⟨rfl, ho.1⟩, ⟨rfl, ho.2⟩, trivial⟩
    · simp only [Ex.parts, List.mem_cons, List.not_mem_nil, or_false] at hp
      rcases hp with rfl | rfl <;> simp only [Pt.dep, Ex.dep] <;> omega
theorem Ex.dep_op {e : Ex} (h : e.isNm = false) (hn : e.word ≠ "num") : 2 ≤ e.dep := by
  have hp := Ex.dep_pos
  cases e with
  | nm t => cases h
  | num w k => exact absurd rfl hn
  | not a => have := hp a; simp only [Ex.dep]; omega
  | pick a b c => have := hp a; simp only [Ex.dep]; omega
  | cut w a => have := hp a; simp only [Ex.dep]; omega
  | bit k a => have := hp a; simp only [Ex.dep]; omega
  | two o a b => have := hp a; simp only [Ex.dep]; omega
theorem expr_no {t : Str} (h : ∀ q ∈ exprG, t ≠ q.1) : exprG.lookup t = none := by
  have key : ∀ l : List (Str × D), (∀ q ∈ l, t ≠ q.1) → l.lookup t = none := fun l => by
    induction l with
    | nil => intro _; rfl
    | cons q r ih =>
      intro h
      obtain ⟨a, b⟩ := q
      have ha : (t == a) = false := beq_eq_false_iff_ne.mpr (h _ List.mem_cons_self)
      rw [List.lookup_cons, ha]
      exact ih fun q hq => h q (List.mem_cons_of_mem _ hq)
  exact key _ h
theorem expr_keys : ∀ q ∈ exprG, isNameD (.str q.1) = false ∧ 46 ∉ TL.tl q.1 := by decide +kernel
theorem tn_expr {t : Str} (h : TnOk t) : exprG.lookup t = none := expr_no fun q hq e => by
  have hk := expr_keys q hq
  rw [← e] at hk
  rcases h with h | ⟨a, b, ha, hb, rfl⟩
  · have h : isNameD (.str t) = true := h
    rw [hk.1] at h
    cases h
  · refine hk.2 ?_
    show 46 ∈ (a ++ ("." ++ b)).cps.toList
    rw [str_assoc]
    show 46 ∈ (a.cps ++ ("." : Str).cps ++ b.cps).toList
    rw [Array.toList_append, Array.toList_append]
    refine List.mem_append_left _ (List.mem_append_right _ ?_)
    decide +kernel
/-! ### where the words lie -/
theorem dr_at {ws rest : List Str} {p : Nat} {wd : Str} (h : ws.drop p = wd :: rest) : ws[p]? = some wd := by
  have := congrArg (fun l => l[0]?) h
  simpa using this
theorem dr_on {ws a rest : List Str} {p : Nat} (h : ws.drop p = a ++ rest) : ws.drop (p + a.length) = rest := by
  rw [← List.drop_drop, h, List.drop_left]
def spPa (C : Addr) (d : Nat) : SpM := fun as P => ∃ (r : Nat) (ws rest : List Str) (p c deep : Nat) (pt : Pt), as = [.mo (some 0) (rdr C r ws p), .d (.str ⟨#[c]⟩), .d (.int (deep : Int))] ∧ KOk c pt ∧ pt.dep ≤ d ∧ deep + 1 + pt.dep ≤ 13 ∧ ws.drop p = pt.words ++ rest ∧ P (pt.tree r p) [rdr C r ws (p + pt.words.length)]
def spEx (C : Addr) (d : Nat) : SpM := fun as P => ∃ (r : Nat) (ws rest : List Str) (p deep : Nat) (e : Ex), as = [.mo (some 0) (rdr C r ws p), .d (.int (deep : Int))] ∧ e.ok ∧ e.dep ≤ d ∧ deep + e.dep ≤ 13 ∧ ws.drop p = e.words ++ rest ∧ P (e.tree r p) [rdr C r ws (p + e.words.length)]
section
variable {P : Program} {w : World} {K : PySem.W.Frag} {mg : Str → Option Value} {base : Heap} {C : Addr} {f : Addr} {fd : FuncData}
theorem c_x : ((⟨#[120]⟩ : Str) == "x") = true := by decide +kernel
theorem ok_RowReader_part_taken {d : Nat} (T : Tb K w mg C) (m_place_now : MthM P w K mg base C "place_now" 1 ["self"] 0 (spPl C)) (m_name_taken : MthM P w K mg base C "name_taken" 3 ["self"] 0 (spNa C)) (m_number_taken : MthM P w K mg base C "number_taken" 3 ["self", "least", "most"] 0 (spNu C))
    (m_expression_taken : MthM P w K mg base C "expression_taken" (2 * d + 5) ["self", "deep"] 0 (spEx C d))
    (F : Fun K "part_taken" "RowReader.part_taken" s_RowReader_part_taken f fd) : FnG P w K mg base CX0 (2 * d + 6) f fd ["self", "kind", "deep"] (spDM K 0 (spPa C d)) := by
  have nd := sc_RowReader_part_taken.nd
  refine okDM (k := 2 * d + 5) F sc_RowReader_part_taken (fun as Q h => by obtain ⟨r, ws, rest, p, c, deep, pt, rfl, _⟩ := h; rfl) (fun cdv A fs s H E hr => have hu := hr.rm.units; have hgd := hr.gd; (gss_cons (gs_if (gt_cmp (od_eq hu) (ge_var 1) ge_str (nomark _)) (gss_one (gs_ret (ge_mth0 0 (pl := _) m_name_taken T.cl (hr.mono (by first | decide | omega))))) gss_nil)
      (gss_cons (gs_if (gt_cmp (od_eq hu) (ge_var 1) ge_str (nomark _)) (gss_one (gs_ret (ge_mth 0 (pl := _) m_number_taken T.cl (hr.mono (by first | decide | omega)) (gb_cons ge_int (gb_cons (ge_gl T.g_WIDEST (by rfl)) gb_nil))))) gss_nil)
      (gss_cons (gs_if (gt_cmp (od_eq hu) (ge_var 1) ge_str (nomark _)) (gss_one (gs_ret (ge_mth 0 (pl := _) m_number_taken T.cl (hr.mono (by first | decide | omega)) (gb_cons ge_int (gb_cons (ge_op od_sub (ge_gl T.g_NUMBERS (by rfl)) ge_int) gb_nil))))) gss_nil)
      (gss_cons (gs_if (gt_cmp (od_eq hu) (ge_var 1) ge_str (nomark _)) (gss_one (gs_ret (ge_tup (ga_cons ge_str (ga_cons (ge_mth0 0 (pl := _) m_place_now T.cl (hr.mono (by first | decide | omega))) (ga_cons (ge_mth0 0 (pl := _) m_name_taken T.cl (hr.mono (by first | decide | omega))) ga_nil)))))) gss_nil)
      (gss_one (gs_ret (ge_mth 0 (pl := _) m_expression_taken T.cl (hr.mono (by first | decide | omega)) (gb_cons (ge_op od_add (ge_var 2) ge_int) gb_nil))))))))) (by decide) (fun as Q h => ?_)
  obtain ⟨r, ws, rest, p, c, deep, pt, rfl, hk, hd, hdeep, hw, hQ⟩ := h
  have nn : ([0] : List Nat).Nodup := by decide
  cases pt with
  | nme z =>
    obtain ⟨rfl, hz⟩ := hk
    exact ⟨rfl, rd_no m_na r ws p, nn, _, rfl, r, ws, p, z, rfl, dr_at hw, hz, _, rfl, hQ⟩
  | n k =>
    rcases hk with ⟨rfl, h1, h2⟩ | ⟨rfl, h1⟩
    · exact ⟨rfl, rd_no m_nu r ws p, nn, _, rfl, r, ws, p, k, _, _, rfl, dr_at hw, by omega, by omega, by omega, _, rfl, hQ⟩
    · exact ⟨rfl, rd_no m_nu r ws p, nn, _, rfl, r, ws, p, k, _, _, rfl, dr_at hw, by omega, by omega, by omega, _, rfl, hQ⟩
  | ref z =>
    obtain ⟨rfl, hz⟩ := hk
    exact ⟨rfl, rd_no m_pl r ws p, nn, _, rfl, r, ws, p, rfl, rfl, rd_no m_na r ws p, nn, _, rfl, r, ws, p, z, rfl, dr_at hw, hz, (show (3 : Nat) ≤ sizeLine by decide), _, rfl, hQ⟩
  | e x =>
    obtain ⟨rfl, hx⟩ := hk
    have hd : x.dep ≤ d := hd
    have hdeep : deep + 1 + x.dep ≤ 13 := hdeep
    exact ⟨rfl, rd_no m_ex r ws p, nn, _, rfl, r, ws, rest, p, deep + 1, x, rfl, hx, hd, hdeep, hw, _, rfl, hQ⟩
theorem parts_read {d r deep : Nat} {ws rest : List Str} {Pc : List D → DEnv → Prop} (nn : ([0] : List Nat).Nodup) : ∀ (cs : List Nat) (ps : List Pt) (p : Nat) (acc : List D) (pl wd : D) (k4 : EV), KsOk cs ps → (∀ pt ∈ ps, pt.dep ≤ d ∧ deep + 1 + pt.dep ≤ 13) → ws.drop p = wordsP ps ++ rest → acc.length + ps.length ≤ 100 →
    Pc (acc ++ treeP r p ps) [.mo (some 0) (rdr C r ws (p + (wordsP ps).length)), .d (.int (deep : Int)), .d pl, .d wd, k4, .un] →
    mLcS (gNm 5) mYes (mMeth C "part_taken" (spPa C d) 0 (mCons (mVar 5) (mCons (mVar 1) mNil))) [5] (cs.map fun c => PyData.str ⟨#[c]⟩) acc [.mo (some 0) (rdr C r ws p), .d (.int (deep : Int)), .d pl, .d wd, k4, .un] Pc
  | [], [], p, acc, pl, wd, k4, _, _, _, _, hP => by
    have e1 : acc ++ treeP r p [] = acc := List.append_nil _
    rw [e1] at hP
    exact hP
  | c :: cs, pt :: ps, p, acc, pl, wd, k4, hk, hd, hw, hl, hP => by
    rw [wordsP_cons, List.append_assoc] at hw
    rw [List.length_cons] at hl
    have big := big_size
    refine ⟨rfl, rd_no m_pa r ws p, nn, _, rfl, r, ws, _, p, c, deep, pt, rfl, hk.1, (hd pt List.mem_cons_self).1, (hd pt List.mem_cons_self).2, hw, by omega, ?_⟩
    refine parts_read nn cs ps (p + pt.words.length) (acc ++ [pt.tree r p]) pl wd k4 hk.2 (fun q hq => hd q (List.mem_cons_of_mem _ hq)) (dr_on hw) (by rw [List.length_append, List.length_singleton]; omega) ?_
    rw [wordsP_cons, List.length_append, treeP] at hP
    rw [List.append_assoc, List.singleton_append, Nat.add_assoc]
    exact hP
  | [], _ :: _, _, _, _, _, _, hk, _, _, _, _ => hk.elim
  | _ :: _, [], _, _, _, _, _, hk, _, _, _, _ => hk.elim
theorem ok_RowReader_expression_taken {d : Nat} (T : Tb K w mg C) (m_place_now : MthM P w K mg base C "place_now" 1 ["self"] 0 (spPl C)) (m_must : MthM P w K mg base C "must" 1 ["self", "good"] 0 (spMu C)) (m_peeked : MthM P w K mg base C "peeked" 2 ["self"] 0 (spPe C))
    (c_is_told_name : Cal P w K mg base "is_told_name" 2 ["word"] 0 spTold) (m_part_taken : MthM P w K mg base C "part_taken" (2 * d + 6) ["self", "kind", "deep"] 0 (spPa C d))
    (F : Fun K "expression_taken" "RowReader.expression_taken" s_RowReader_expression_taken f fd) : FnG P w K mg base CX0 (2 * d + 7) f fd ["self", "deep"] (spDM K 0 (spEx C (d + 1))) := by
  have nd := sc_RowReader_expression_taken.nd
  refine okDM (k := 2 * d + 6) F sc_RowReader_expression_taken (fun as Q h => by obtain ⟨r, ws, rest, p, deep, e, rfl, _⟩ := h; rfl) (fun cdv A fs s H E hr => have hu := hr.rm.units; have hgd := hr.gd; (gss_cons (gs_par rfl nd (i := 2) (j := 3) rfl rfl (by decide) rfl rfl (ga_cons (ge_mth0 0 (pl := _) m_place_now T.cl (hr.mono (by first | decide | omega))) (ga_cons (ge_mth0 0 (pl := _) m_peeked T.cl (hr.mono (by first | decide | omega))) ga_nil)) (by rfl))
      (gss_cons (gs_if (gt_gnin T.gd_EXPRESSIONS (by rfl) (ge_var 3)) (gss_cons (gs_expr (ge_mth 0 (pl := _) m_must T.cl (hr.mono (by first | decide | omega)) (gb_cons (ge_cal c_is_told_name (hr.mono (by first | decide | omega)) (by rfl) (ga_cons (ge_var 3) ga_nil)) gb_nil)))
      (gss_cons (gs_fldI C 0 T.cl T.na_taken ge_int)
      (gss_one (gs_ret (ge_tup (ga_cons ge_str (ga_cons (ge_var 2) (ga_cons (ge_var 3) ga_nil)))))))) gss_nil)
      (gss_cons (gs_expr (ge_mth 0 (pl := _) m_must T.cl (hr.mono (by first | decide | omega)) (gb_cons (ge_orV (ge_cmp od_lt (ge_var 1) (ge_gl T.g_DEEPEST (by rfl)) (nomark _)) (pe_one (ge_cmp od_in (ge_var 3) (ge_gl T.g_LEAVES (by rfl)) (by rfl)))) gb_nil)))
      (gss_cons (gs_fldI C 0 T.cl T.na_taken ge_int)
      (gss_cons (gs_setLcS 0 (i := 4) rfl nd rfl rfl (sw_true rfl rfl rfl (by decide +kernel)) (gi_str (ge_gix T.gd_EXPRESSIONS (by rfl) (ge_var 3) (fun _ _ => rfl))) (blkOk_by (own := [("kind", 5)]) (N := N_RowReader_expression_taken) (sc := defScope s_RowReader_expression_taken) (by decide +kernel)) (fun _ _ _ _ _ => (gg_name (i := 5) (vs := (List.map (·.2) ([("kind", 5)] : List (Str × Nat)))) nd rfl (.inl rfl) (by decide))) (fun _ _ _ _ _ => gts_nil) (fun _ _ _ _ _ => (ge_mth 0 (pl := _) m_part_taken T.cl (hr.mono (by first | decide | omega)) (gb_cons (ge_var 5) (gb_cons (ge_var 1) gb_nil)))))
      (gss_one (gs_ret (ge_op od_add (ge_tup (ga_cons (ge_var 3) (ga_cons (ge_var 2) ga_nil))) (ge_callTy cd_tuple (by rfl) T.n_tuple (by decide +kernel) (ga_cons (ge_var 4) ga_nil))))))))))) (by decide) (fun as Q h => ?_)
  obtain ⟨r, ws, rest, p, deep, e, rfl, ho, hd, hdeep, hw, hQ⟩ := h
  have nn : ([0] : List Nat).Nodup := by decide
  have big := big_size
  cases hn : e.isNm with
  | true =>
    cases e with
    | nm t =>
      have ho : TnOk t := ho
      have hl := tn_len ho
      refine ⟨rfl, rd_no m_pl r ws p, nn, _, rfl, r, ws, p, rfl, rfl, rd_no m_pe r ws p, nn, _, rfl, r, ws, p, t, rfl, dr_at hw, ?_⟩
      show match !(exprG.lookup t).isSome with | true => _ | false => _
      rw [tn_expr ho]
      refine ⟨rfl, rd_no m_mu r ws p, t, rfl, ho, nn, _, rfl, r, ws, p, rfl, rfl, _, rd_taken r ws p, rfl, (show (3 : Nat) < 1000 by decide), (show (3 : Nat) ≤ sizeLine by decide), ?_⟩
      show ∃ cs, finM _ [.mo (some 0) (.ins C (putFD "taken" (.int ((p : Int) + 1)) (rdF r ws p))), _, _, _, _, _] = some cs ∧ _
      rw [rd_put]
      exact ⟨_, rfl, hQ⟩
    | _ => cases hn
  | false =>
    obtain ⟨sh, h1, h2, h3⟩ := ex_shape hn ho
    have hw' := hw
    rw [Ex.words_eq hn] at hw'
    refine ⟨rfl, rd_no m_pl r ws p, nn, _, rfl, r, ws, p, rfl, rfl, rd_no m_pe r ws p, nn, _, rfl, r, ws, p, e.word, rfl, dr_at hw', ?_⟩
    show match !(exprG.lookup e.word).isSome with | true => _ | false => _
    rw [h1]
    refine ⟨rfl, rd_no m_mu r ws p, ?_⟩
    show match PyData.bool (decide ((deep : Int) < 12)) with | .bool true => _ | .bool false => _ | _ => _
    have go : decide ((deep : Int) < 12) = true ∨ decide ((deep : Int) < 12) = false ∧ e.word = "num" := by
      by_cases hz : (deep : Int) < 12
      · exact .inl (decide_eq_true hz)
      · refine .inr ⟨decide_eq_false hz, ?_⟩
        by_cases hy : e.word = "num"
        · exact hy
        · have := Ex.dep_op hn hy
          omega
    have hlen : (treeP r (p + 1) e.parts).length ≤ 3 := by
      rw [treeP_len]
      cases e <;> simp [Ex.parts]
    have hpl : e.parts.length ≤ 3 := by
      rw [treeP_len] at hlen
      exact hlen
    have hrest : ws.drop (p + 1) = wordsP e.parts ++ rest := by
      have := dr_on (a := [e.word]) (rest := wordsP e.parts ++ rest) hw'
      exact this
    have hk : ∀ pt ∈ e.parts, pt.dep ≤ d ∧ deep + 1 + pt.dep ≤ 13 := fun pt hp => by
      have := h3 pt hp
      omega
    rw [Ex.tree_eq hn, Ex.words_eq hn, List.length_cons] at hQ
    rcases go with go | ⟨go, hz⟩
    · rw [go]
      refine ⟨nn, _, rfl, r, ws, p, rfl, rfl, _, rd_taken r ws p, rfl, (show (3 : Nat) < 1000 by decide), ?_⟩
      rw [rd_put]
      refine ⟨_, h1, ?_, fun i hi w c => ?_, ?_⟩
      · rw [Nat.mul_comm]
        exact Nat.le_of_eq (Nat.zero_mul _)
      · have : i = 5 := List.mem_singleton.mp hi
        subst this
        intro hz
        cases hz
      · refine parts_read (d := d) (r := r) (deep := deep) (ws := ws) (rest := rest) nn sh.cps.toList e.parts (p + 1) [] (placeD r p) (.str e.word) .un h2 hk hrest (by rw [List.length_nil]; omega) ?_
        refine ⟨(show (2 : Nat) ≤ sizeLine by decide), ?_⟩
        rw [List.nil_append]
        refine ⟨show 2 + (treeP r (p + 1) e.parts).length ≤ sizeLine by omega, [rdr C r ws (p + 1 + (wordsP e.parts).length)], rfl, ?_⟩
        have ea : p + ((wordsP e.parts).length + 1) = p + 1 + (wordsP e.parts).length := by omega
        rw [ea] at hQ
        exact hQ
    · rw [go]
      have hb : inD (.str e.word) [PyData.str "num"] = true := by
        rw [hz]
        decide +kernel
      refine ⟨⟨rfl, rfl⟩, ?_⟩
      rw [hb]
      refine ⟨nn, _, rfl, r, ws, p, rfl, rfl, _, rd_taken r ws p, rfl, (show (3 : Nat) < 1000 by decide), ?_⟩
      rw [rd_put]
      refine ⟨_, h1, ?_, fun i hi w c => ?_, ?_⟩
      · rw [Nat.mul_comm]
        exact Nat.le_of_eq (Nat.zero_mul _)
      · have : i = 5 := List.mem_singleton.mp hi
        subst this
        intro hz
        cases hz
      · refine parts_read (d := d) (r := r) (deep := deep) (ws := ws) (rest := rest) nn sh.cps.toList e.parts (p + 1) [] (placeD r p) (.str e.word) .un h2 hk hrest (by rw [List.length_nil]; omega) ?_
        refine ⟨(show (2 : Nat) ≤ sizeLine by decide), ?_⟩
        rw [List.nil_append]
        refine ⟨show 2 + (treeP r (p + 1) e.parts).length ≤ sizeLine by omega, [rdr C r ws (p + 1 + (wordsP e.parts).length)], rfl, ?_⟩
        have ea : p + ((wordsP e.parts).length + 1) = p + 1 + (wordsP e.parts).length := by omega
        rw [ea] at hQ
        exact hQ
end
end L05
namespace L05
open PySem PySem.Spec PyProof.Rows L2 DL
/-! ### rows -/
inductive Rw where
  | prt (wd : Str) (ps : List Pt)
  | use (x c : Str) (hs : List Str) (es : List Ex)
def Rw.toD : Rw → D
  | .prt wd ps => .tuple (.str wd :: ps.map Pt.toD)
  | .use x c hs es => .tuple [.str "use", .str x, .str c, .tuple (hs.map PyData.str), .tuple (es.map Ex.toD)]
def useW (x c : Str) (hs : List Str) (es : List Ex) : List Str := x :: c :: nT hs.length :: (hs ++ wordsP (es.map Pt.e))
def Rw.words : Rw → List Str
  | .prt wd ps => wd :: wordsP ps
  | .use x c hs es => "use" :: useW x c hs es
def Rw.tree (r : Nat) : Rw → D
  | .prt wd ps => .tuple (.str wd :: treeP r 1 ps)
  | .use x c hs es => .tuple [.str "use", .str x, .str c, .tuple (hs.map PyData.str), .tuple (treeP r (4 + hs.length) (es.map Pt.e))]
def UseOk (x c : Str) (hs : List Str) (es : List Ex) : Prop := NmOk x ∧ NmOk c ∧ (∀ z ∈ hs, NmOk z) ∧ hs.length ≤ 4 ∧ es.length ≤ 6 ∧ ∀ e ∈ es, e.ok ∧ e.dep ≤ 12
def Rw.ok : Rw → Prop
  | .prt wd ps => ∃ sh : Str, rowsG.lookup wd = some (.str sh) ∧ wd ≠ "use" ∧ KsOk sh.cps.toList ps ∧ ps.length ≤ 5 ∧ ∀ pt ∈ ps, pt.dep ≤ 12
  | .use x c hs es => UseOk x c hs es
def spUs (C : Addr) : SpM := fun as P => ∃ (r : Nat) (ws : List Str) (x c : Str) (hs : List Str) (es : List Ex), as = [.mo (some 0) (rdr C r ws 1)] ∧ UseOk x c hs es ∧ ws.drop 1 = useW x c hs es ∧ P ((Rw.use x c hs es).tree r) [rdr C r ws ws.length]
def spRo (C : Addr) : SpM := fun as P => ∃ (r : Nat) (ws : List Str) (rw : Rw), as = [.mo (some 0) (rdr C r ws 0)] ∧ rw.ok ∧ ws = rw.words ∧ P (rw.tree r) [rdr C r ws ws.length]
section
variable {P : Program} {w : World} {K : PySem.W.Frag} {mg : Str → Option Value} {base : Heap} {C : Addr} {f : Addr} {fd : FuncData}
theorem names_read {r : Nat} {ws rest : List Str} {Pc : List D → DEnv → Prop} (nn : ([0] : List Nat).Nodup) : ∀ (xs : List D) (hs : List Str) (p : Nat) (acc : List D) (k1 k2 k3 : EV), xs.length = hs.length → (∀ z ∈ hs, NmOk z) → ws.drop p = hs ++ rest → acc.length + hs.length ≤ 100 →
    Pc (acc ++ hs.map PyData.str) [.mo (some 0) (rdr C r ws (p + hs.length)), k1, k2, k3, .un] →
    mLcS (gNm 4) mYes (mMeth C "name_taken" (spNa C) 0 mNil) [4] xs acc [.mo (some 0) (rdr C r ws p), k1, k2, k3, .un] Pc
  | [], [], p, acc, k1, k2, k3, _, _, _, _, hP => by
    have e1 : acc ++ ([] : List Str).map PyData.str = acc := List.append_nil _
    rw [e1] at hP
    exact hP
  | x :: xs, z :: hs, p, acc, k1, k2, k3, hx, hz, hw, hl, hP => by
    rw [List.length_cons] at hl
    have big := big_size
    refine ⟨rfl, rd_no m_na r ws p, nn, _, rfl, r, ws, p, z, rfl, dr_at hw, hz z List.mem_cons_self, by omega, ?_⟩
    refine names_read nn xs hs (p + 1) (acc ++ [.str z]) k1 k2 k3 (by simpa using hx) (fun q hq => hz q (List.mem_cons_of_mem _ hq)) (dr_on (a := [z]) hw) (by rw [List.length_append, List.length_singleton]; omega) ?_
    have e : p + (z :: hs).length = p + 1 + hs.length := by rw [List.length_cons]; omega
    rw [e] at hP
    rw [List.append_assoc, List.singleton_append]
    exact hP
  | [], _ :: _, _, _, _, _, _, hk, _, _, _, _ => by simp at hk
  | _ :: _, [], _, _, _, _, _, hk, _, _, _, _ => by simp at hk
theorem wordsP_len {es : List Ex} {k : Nat} (h : k < es.length) : (wordsP ((es.take k).map Pt.e)).length < (wordsP (es.map Pt.e)).length := by
  have e : es = es.take k ++ es[k] :: es.drop (k + 1) := by
    rw [← List.drop_eq_getElem_cons h, List.take_append_drop]
  have h1 := (es[k]).wlen.1
  have h2 : wordsP (es.map Pt.e) = wordsP ((es.take k).map Pt.e) ++ (es[k].words ++ wordsP ((es.drop (k + 1)).map Pt.e)) := by
    conv => lhs; rw [e]
    rw [List.map_append, List.map_cons]
    unfold wordsP
    rw [List.flatMap_append, List.flatMap_cons]
    rfl
  rw [h2, List.length_append, List.length_append]
  omega
theorem ok_RowReader_use_taken (T : Tb K w mg C) (m_is_at_end : MthM P w K mg base C "is_at_end" 1 ["self"] 0 (spEn C)) (m_name_taken : MthM P w K mg base C "name_taken" 3 ["self"] 0 (spNa C)) (m_number_taken : MthM P w K mg base C "number_taken" 3 ["self", "least", "most"] 0 (spNu C))
    (m_expression_taken : MthM P w K mg base C "expression_taken" 29 ["self", "deep"] 0 (spEx C 12))
    (F : Fun K "use_taken" "RowReader.use_taken" s_RowReader_use_taken f fd) : FnG P w K mg base CX0 30 f fd ["self"] (spDM K 0 (spUs C)) := by
  have nd := sc_RowReader_use_taken.nd
  refine okDM (k := 29) F sc_RowReader_use_taken (fun as Q h => by obtain ⟨r, ws, x, c, hs, es, rfl, _⟩ := h; rfl) (fun cdv A fs s H E hr => have hu := hr.rm.units; have hgd := hr.gd; (gss_cons (gs_set (i := 1) nd rfl (.inl rfl) (ge_tup (ga_cons (ge_mth0 0 (pl := _) m_name_taken T.cl (hr.mono (by first | decide | omega))) (ga_cons (ge_mth0 0 (pl := _) m_name_taken T.cl (hr.mono (by first | decide | omega))) ga_nil))))
      (gss_cons (gs_set (i := 2) nd rfl (.inl rfl) (ge_callTy cd_tuple (by rfl) T.n_tuple (by decide +kernel) (ga_cons (ge_pub (gf_lcS 0 rfl nd (gi_range1 (by rfl) T.n_range (ga_cons (ge_mth 0 (pl := _) m_number_taken T.cl (hr.mono (by first | decide | omega)) (gb_cons ge_int (gb_cons (ge_gl T.g_MOST_CLOCKS (by rfl)) gb_nil))) ga_nil)) (blkOk_by (own := [("turn", 4)]) (N := N_RowReader_use_taken) (sc := defScope s_RowReader_use_taken) (by decide +kernel)) (fun _ _ _ _ _ => (gg_name (i := 4) (vs := (List.map (·.2) ([("turn", 4)] : List (Str × Nat)))) nd rfl (.inl rfl) (by decide))) (fun _ _ _ _ _ => gts_nil) (fun _ _ _ _ _ => (ge_mth0 0 (pl := _) m_name_taken T.cl (hr.mono (by first | decide | omega)))))) ga_nil)))
      (gss_cons (gs_setF (i := 3) nd rfl (.inl rfl) (gf_lst ga_nil))
      (gss_cons (gs_while 0 PassesOwn.never (PW.pt (gt_and (gt_not (gt_val (ge_mth0 0 (pl := _) m_is_at_end T.cl (hr.mono (by first | decide | omega))))) (pw_and1 (gt_cmp od_lt (ge_lend 3 (ge_callB cd_len (by rfl) T.n_len PySem.boot_len (ga_cons (ge_var 3) ga_nil))) (ge_gl T.g_MOST_HANDED (by rfl)) (nomark _))))) (gss_one (gs_append (i := 3) rfl (.inl rfl) (ge_mth 0 (pl := _) m_expression_taken T.cl (hr.mono (by first | decide | omega)) (gb_cons ge_int gb_nil)))))
      (gss_one (gs_ret (ge_op od_add (ge_op od_add (ge_tup (ga_cons ge_str ga_nil)) (ge_var 1)) (ge_tup (ga_cons (ge_var 2) (ga_cons (ge_callTy cd_tuple (by rfl) T.n_tuple (by decide +kernel) (ga_cons (ge_var 3) ga_nil)) ga_nil))))))))))) (by decide) (fun as Q h => ?_)
  obtain ⟨r, ws, x, c, hs, es, rfl, ⟨hx, hc, hhs, hh4, he6, hes⟩, hw, hQ⟩ := h
  have nn : ([0] : List Nat).Nodup := by decide
  have big := big_size
  have w1 := hw
  have w2 : ws.drop 2 = _ := dr_on (a := [x]) w1
  have w3 : ws.drop 3 = _ := dr_on (a := [c]) w2
  have w4 : ws.drop 4 = _ := dr_on (a := [nT hs.length]) w3
  have w5 : ws.drop (4 + hs.length) = wordsP (es.map Pt.e) := dr_on (rest := wordsP (es.map Pt.e)) w4
  have wl : ws.length = 4 + hs.length + (wordsP (es.map Pt.e)).length := by
    have h := congrArg List.length w1
    rw [List.length_drop] at h
    simp only [useW, List.length_cons, List.length_append] at h
    omega
  refine ⟨rfl, rd_no m_na r ws 1, nn, _, rfl, r, ws, 1, x, rfl, dr_at w1, hx, rfl, rd_no m_na r ws 2, nn, _, rfl, r, ws, 2, c, rfl, dr_at w2, hc, (show (2 : Nat) ≤ sizeLine by decide), ?_⟩
  refine ⟨rfl, rd_no m_nu r ws 3, nn, _, rfl, r, ws, 3, hs.length, _, _, rfl, dr_at w3, by omega, by omega, by omega, by omega, by omega, ?_, fun i hi w c => ?_, ?_⟩
  · rw [Nat.mul_comm]
    exact Nat.le_of_eq (Nat.zero_mul _)
  · have : i = 4 := List.mem_singleton.mp hi
    subst this
    intro hz
    cases hz
  refine names_read (r := r) (ws := ws) (rest := wordsP (es.map Pt.e)) nn _ hs 4 [] _ _ _ (by rw [rangeD_len]; omega) hhs w4 (by rw [List.length_nil]; omega) ?_
  rw [List.nil_append]
  refine ⟨(show (0 : Nat) ≤ sizeLine by decide), fun m env => ∃ k, k ≤ es.length ∧ m = es.length - k ∧ env = [.mo (some 0) (rdr C r ws (4 + hs.length + (wordsP ((es.take k).map Pt.e)).length)), .d (.tuple [.str x, .str c]), .d (.tuple (hs.map PyData.str)), .own (treeP r (4 + hs.length) ((es.take k).map Pt.e)), .un], es.length, ⟨0, by omega, by omega, rfl⟩, ?_, fun m env hI => ?_⟩
  · rw [Nat.mul_comm]
    exact Nat.le_of_eq (Nat.zero_mul _)
  obtain ⟨k, hk, rfl, rfl⟩ := hI
  refine ⟨es.length - (k + 1), by omega, rfl, rd_no m_en r ws _, nn, _, rfl, r, ws, _, rfl, ?_⟩
  by_cases hlt : k < es.length
  · have hl := wordsP_len hlt
    rw [decide_eq_false (by omega)]
    refine ⟨_, rfl, rfl, ?_⟩
    show match decide ((((treeP r (4 + hs.length) ((es.take k).map Pt.e)).length : Nat) : Int) < 6) with | true => _ | false => _
    have h6 : (((treeP r (4 + hs.length) ((es.take k).map Pt.e)).length : Nat) : Int) < 6 := by
      rw [treeP_len, List.length_map, List.length_take]
      omega
    rw [decide_eq_true h6]
    have e : es = es.take k ++ es[k] :: es.drop (k + 1) := by
      rw [← List.drop_eq_getElem_cons hlt, List.take_append_drop]
    have ew : wordsP (es.map Pt.e) = wordsP ((es.take k).map Pt.e) ++ (es[k].words ++ wordsP ((es.drop (k + 1)).map Pt.e)) := by
      conv => lhs; rw [e]
      rw [List.map_append, List.map_cons]
      unfold wordsP
      rw [List.flatMap_append, List.flatMap_cons]
      rfl
    rw [ew] at w5
    have w6 := dr_on w5
    have hm : es[k] ∈ es := List.getElem_mem hlt
    have hk2 : es.take (k + 1) = es.take k ++ [es[k]] := by rw [List.take_succ_eq_append_getElem hlt]
    refine ⟨by omega, ⟨_, rfl⟩, rfl, rd_no m_ex r ws _, nn, _, rfl, r, ws, _, _, 1, es[k], rfl, (hes _ hm).1, (hes _ hm).2, by have := (hes _ hm).2; omega, w6, by omega, k + 1, hlt, rfl, ?_⟩
    rw [hk2, List.map_append, List.map_singleton, treeP_snoc, wordsP_snoc, List.length_append]
    have ea : 4 + hs.length + (wordsP ((es.take k).map Pt.e)).length + es[k].words.length = 4 + hs.length + ((wordsP ((es.take k).map Pt.e)).length + es[k].words.length) := by omega
    rw [ea]
    rfl
  · have hk' : k = es.length := by omega
    subst hk'
    rw [List.take_length]
    rw [decide_eq_true (by omega)]
    refine ⟨(show (1 : Nat) ≤ sizeLine by decide), (show (1 + 2 : Nat) ≤ sizeLine by decide), (show (2 : Nat) ≤ sizeLine by decide), (show (3 + 2 : Nat) ≤ sizeLine by decide), _, rfl, ?_⟩
    rw [wl] at hQ
    exact hQ
theorem parts_read0 {d r : Nat} {ws rest : List Str} {Pc : List D → DEnv → Prop} (nn : ([0] : List Nat).Nodup) : ∀ (cs : List Nat) (ps : List Pt) (p : Nat) (acc : List D) (wd : D), KsOk cs ps → (∀ pt ∈ ps, pt.dep ≤ d ∧ 0 + 1 + pt.dep ≤ 13) → ws.drop p = wordsP ps ++ rest → acc.length + ps.length ≤ 100 →
    Pc (acc ++ treeP r p ps) [.mo (some 0) (rdr C r ws (p + (wordsP ps).length)), .d wd, .un, .un] →
    mLcS (gNm 3) mYes (mMeth C "part_taken" (spPa C d) 0 (mCons (mVar 3) (mCons (mC (.int 0)) mNil))) [3] (cs.map fun c => PyData.str ⟨#[c]⟩) acc [.mo (some 0) (rdr C r ws p), .d wd, .un, .un] Pc
  | [], [], p, acc, wd, _, _, _, _, hP => by
    have e1 : acc ++ treeP r p [] = acc := List.append_nil _
    rw [e1] at hP
    exact hP
  | c :: cs, pt :: ps, p, acc, wd, hk, hd, hw, hl, hP => by
    rw [wordsP_cons, List.append_assoc] at hw
    rw [List.length_cons] at hl
    have big := big_size
    refine ⟨rfl, rd_no m_pa r ws p, nn, _, rfl, r, ws, _, p, c, 0, pt, rfl, hk.1, (hd pt List.mem_cons_self).1, (hd pt List.mem_cons_self).2, hw, by omega, ?_⟩
    refine parts_read0 nn cs ps (p + pt.words.length) (acc ++ [pt.tree r p]) wd hk.2 (fun q hq => hd q (List.mem_cons_of_mem _ hq)) (dr_on hw) (by rw [List.length_append, List.length_singleton]; omega) ?_
    rw [wordsP_cons, List.length_append, treeP] at hP
    rw [List.append_assoc, List.singleton_append, Nat.add_assoc]
    exact hP
  | [], _ :: _, _, _, _, hk, _, _, _, _ => hk.elim
  | _ :: _, [], _, _, _, hk, _, _, _, _ => hk.elim
theorem ok_RowReader_row_taken (T : Tb K w mg C) (m_is_at_end : MthM P w K mg base C "is_at_end" 1 ["self"] 0 (spEn C)) (m_must : MthM P w K mg base C "must" 1 ["self", "good"] 0 (spMu C)) (m_peeked : MthM P w K mg base C "peeked" 2 ["self"] 0 (spPe C))
    (m_use_taken : MthM P w K mg base C "use_taken" 30 ["self"] 0 (spUs C)) (m_part_taken : MthM P w K mg base C "part_taken" 30 ["self", "kind", "deep"] 0 (spPa C 12))
    (F : Fun K "row_taken" "RowReader.row_taken" s_RowReader_row_taken f fd) : FnG P w K mg base CX0 31 f fd ["self"] (spDM K 0 (spRo C)) := by
  have nd := sc_RowReader_row_taken.nd
  refine okDM (k := 30) F sc_RowReader_row_taken (fun as Q h => by obtain ⟨r, ws, rw, rfl, _⟩ := h; rfl) (fun cdv A fs s H E hr => have hu := hr.rm.units; have hgd := hr.gd; (gss_cons (gs_set (i := 1) nd rfl (.inl rfl) (ge_mth0 0 (pl := _) m_peeked T.cl (hr.mono (by first | decide | omega))))
      (gss_cons (gs_expr (ge_mth 0 (pl := _) m_must T.cl (hr.mono (by first | decide | omega)) (gb_cons (ge_orV (ge_cmp (od_eq hu) (ge_var 1) ge_str (nomark _)) (pe_one (ge_gin T.gd_ROWS (by rfl) (ge_var 1)))) gb_nil)))
      (gss_cons (gs_fldI C 0 T.cl T.na_taken ge_int)
      (gss_cons (gs_if (gt_cmp (od_eq hu) (ge_var 1) ge_str (nomark _)) (gss_one (gs_set (i := 2) nd rfl (.inl rfl) (ge_mth0 0 (pl := _) m_use_taken T.cl (hr.mono (by first | decide | omega))))) (gss_one (gs_set (i := 2) nd rfl (.inl rfl) (ge_op od_add (ge_tup (ga_cons (ge_var 1) ga_nil)) (ge_callTy cd_tuple (by rfl) T.n_tuple (by decide +kernel) (ga_cons (ge_pub (gf_lcS 0 rfl nd (gi_str (ge_gix T.gd_ROWS (by rfl) (ge_var 1) (fun _ _ => rfl))) (blkOk_by (own := [("kind", 3)]) (N := N_RowReader_row_taken) (sc := defScope s_RowReader_row_taken) (by decide +kernel)) (fun _ _ _ _ _ => (gg_name (i := 3) (vs := (List.map (·.2) ([("kind", 3)] : List (Str × Nat)))) nd rfl (.inl rfl) (by decide))) (fun _ _ _ _ _ => gts_nil) (fun _ _ _ _ _ => (ge_mth 0 (pl := _) m_part_taken T.cl (hr.mono (by first | decide | omega)) (gb_cons (ge_var 3) (gb_cons ge_int gb_nil)))))) ga_nil))))))
      (gss_cons (gs_expr (ge_mth 0 (pl := _) m_must T.cl (hr.mono (by first | decide | omega)) (gb_cons (ge_mth0 0 (pl := _) m_is_at_end T.cl (hr.mono (by first | decide | omega))) gb_nil)))
      (gss_one (gs_ret (ge_var 2))))))))) (by decide) (fun as Q h => ?_)
  obtain ⟨r, ws, rw, rfl, ho, hw, hQ⟩ := h
  have nn : ([0] : List Nat).Nodup := by decide
  have big := big_size
  cases rw with
  | use x c hs es =>
    refine ⟨rfl, rd_no m_pe r ws 0, nn, _, rfl, r, ws, 0, "use", rfl, by rw [hw]; rfl, ?_⟩
    refine ⟨rfl, rd_no m_mu r ws 0, nn, _, rfl, r, ws, 0, rfl, rfl, _, rd_taken r ws 0, rfl, (show (3 : Nat) < 1000 by decide), ?_⟩
    rw [rd_put]
    refine ⟨rfl, rd_no m_us r ws 1, nn, _, rfl, r, ws, x, c, hs, es, rfl, ho, by rw [hw]; rfl, ?_⟩
    refine ⟨rfl, rd_no m_mu r ws _, rfl, rd_no m_en r ws _, nn, _, rfl, r, ws, _, rfl, ?_⟩
    rw [decide_eq_true rfl]
    exact ⟨nn, _, rfl, r, ws, _, rfl, _, rfl, hQ⟩
  | prt wd ps =>
    obtain ⟨sh, h1, h2, h3, h4, h5⟩ := ho
    have w1 : ws.drop 1 = wordsP ps ++ [] := by rw [hw, List.append_nil]; rfl
    have wl : ws.length = 1 + (wordsP ps).length := by
      rw [hw]
      show (wordsP ps).length + 1 = _
      omega
    have hdec : decide (wd = "use") = false := decide_eq_false h2
    refine ⟨rfl, rd_no m_pe r ws 0, nn, _, rfl, r, ws, 0, wd, rfl, by rw [hw]; rfl, ?_⟩
    refine ⟨rfl, rd_no m_mu r ws 0, ?_⟩
    show match PyData.bool (decide (wd = "use")) with | .bool true => _ | .bool false => _ | _ => _
    rw [hdec]
    show (atsM [.at 0, .d (.bool (rowsG.lookup wd).isSome)]).Nodup ∧ _
    rw [h1]
    refine ⟨nn, _, rfl, r, ws, 0, rfl, rfl, _, rd_taken r ws 0, rfl, (show (3 : Nat) < 1000 by decide), ?_⟩
    rw [rd_put]
    show match decide (wd = "use") with | true => _ | false => _
    rw [hdec]
    refine ⟨(show (1 : Nat) ≤ sizeLine by decide), _, h1, ?_, fun i hi w c => ?_, ?_⟩
    · rw [Nat.mul_comm]
      exact Nat.le_of_eq (Nat.zero_mul _)
    · have : i = 3 := List.mem_singleton.mp hi
      subst this
      intro hz
      cases hz
    refine parts_read0 (d := 12) (r := r) (ws := ws) (rest := []) nn sh.cps.toList ps 1 [] (.str wd) h3 (fun pt hp => ⟨h5 pt hp, by have := h5 pt hp; omega⟩) w1 (by rw [List.length_nil]; omega) ?_
    rw [List.nil_append]
    refine ⟨show 1 + (treeP r 1 ps).length ≤ sizeLine by rw [treeP_len]; omega, ?_⟩
    refine ⟨rfl, rd_no m_mu r ws _, rfl, rd_no m_en r ws _, nn, _, rfl, r, ws, _, rfl, ?_⟩
    rw [decide_eq_true wl.symm]
    rw [wl] at hQ
    exact ⟨nn, _, rfl, r, ws, _, rfl, _, rfl, hQ⟩
end
end L05
namespace L05
open PySem PySem.Spec PyProof.Rows L2 DL
/-! ### words, lines, texts -/
def WdOk (z : Str) : Prop := 32 ∉ TL.tl z ∧ 10 ∉ TL.tl z ∧ 1 ≤ z.length ∧ z.length ≤ 13
theorem wd_nm {z : Str} (h : NmOk z) : WdOk z := by
  have hl := nm_len h
  have hs := nm_signs h
  rw [List.all_eq_true] at hs
  have key : ∀ c ∈ TL.tl z, c ≠ 46 ∧ c ≠ 32 ∧ c ≠ 10 ∧ c < 256 := fun c hc => let_ne c (of_decide_eq_true (hs c hc))
  exact ⟨fun m => (key _ m).2.1 rfl, fun m => (key _ m).2.2.1 rfl, by omega, by omega⟩
theorem wd_tn {z : Str} (h : TnOk z) : WdOk z := by
  have hl := tn_len h
  rcases h with h | ⟨a, b, ha, hb, rfl⟩
  · exact wd_nm h
  · have h1 := wd_nm ha
    have h2 := wd_nm hb
    have e : TL.tl (a ++ ("." ++ b)) = TL.tl a ++ ([46] ++ TL.tl b) := by rw [TL.tl_append, TL.tl_append, dot_tl]
    refine ⟨fun m => ?_, fun m => ?_, hl.1, hl.2⟩
    · rw [e, List.mem_append, List.mem_append] at m
      rcases m with m | m | m
      · exact h1.1 m
      · simp at m
      · exact h2.1 m
    · rw [e, List.mem_append, List.mem_append] at m
      rcases m with m | m | m
      · exact h1.2.1 m
      · simp at m
      · exact h2.2.1 m
theorem wd_num {k : Nat} (h : k < 65536) : WdOk (nT k) := by
  have hl := nT_len (k := k) (by omega)
  have key : ∀ c ∈ TL.tl (nT k), 48 ≤ c := fun c hc => by
    have hc : c ∈ (nT k).cps.toList := hc
    rw [nT_tl] at hc
    exact (figs_dig k c hc).1
  exact ⟨fun m => absurd (key _ m) (by decide), fun m => absurd (key _ m) (by decide), by omega, by omega⟩
def wdB (z : Str) : Bool := decide (32 ∉ TL.tl z) && (decide (10 ∉ TL.tl z) && (decide (1 ≤ z.length) && decide (z.length ≤ 13)))
theorem wd_b {z : Str} (h : wdB z = true) : WdOk z := by
  simp only [wdB, Bool.and_eq_true, decide_eq_true_eq] at h
  exact h
theorem wd_twoB : ∀ o : _root_.Fin 7, wdB (twoS o) = true := by decide +kernel
theorem wd_word (e : Ex) : WdOk e.word := by
  cases e with
  | two o a b => exact wd_b (wd_twoB o)
  | num _ _ => exact wd_b (z := "num") (by decide +kernel)
  | nm _ => exact wd_b (z := "name") (by decide +kernel)
  | not _ => exact wd_b (z := "not") (by decide +kernel)
  | pick _ _ _ => exact wd_b (z := "pick") (by decide +kernel)
  | cut _ _ => exact wd_b (z := "cut") (by decide +kernel)
  | bit _ _ => exact wd_b (z := "bit") (by decide +kernel)
theorem ex_words : ∀ {e : Ex}, e.ok → ∀ z ∈ e.words, WdOk z := by
  intro e
  induction e with
  | num w k =>
    intro h z hz
    simp only [Ex.words, List.mem_cons, List.not_mem_nil, or_false] at hz
    rcases hz with rfl | rfl | rfl
    · exact wd_word (.num w k)
    · exact wd_num (by have := h.2.1; omega)
    · exact wd_num h.2.2
  | nm t =>
    intro h z hz
    rw [Ex.words, List.mem_singleton] at hz
    subst hz
    exact wd_tn h
  | not a i1 =>
    intro h z hz
    rw [Ex.words, List.mem_cons] at hz
    rcases hz with rfl | hz
    · exact wd_word (.not a)
    · exact i1 h z hz
  | pick a b c i1 i2 i3 =>
    intro h z hz
    rw [Ex.words, List.mem_cons, List.mem_append, List.mem_append] at hz
    rcases hz with rfl | hz | hz | hz
    · exact wd_word (.pick a b c)
    · exact i1 h.1 z hz
    · exact i2 h.2.1 z hz
    · exact i3 h.2.2 z hz
  | cut w a i1 =>
    intro h z hz
    rw [Ex.words, List.mem_cons, List.mem_cons] at hz
    rcases hz with rfl | rfl | hz
    · exact wd_word (.cut w a)
    · exact wd_num (by have := h.1.2; omega)
    · exact i1 h.2 z hz
  | bit w a i1 =>
    intro h z hz
    rw [Ex.words, List.mem_cons, List.mem_cons] at hz
    rcases hz with rfl | rfl | hz
    · exact wd_word (.bit w a)
    · exact wd_num h.1
    · exact i1 h.2 z hz
  | two o a b i1 i2 =>
    intro h z hz
    rw [Ex.words, List.mem_cons, List.mem_append] at hz
    rcases hz with rfl | hz | hz
    · exact wd_word (.two o a b)
    · exact i1 h.1 z hz
    · exact i2 h.2 z hz
theorem pt_words {c : Nat} {p : Pt} (h : KOk c p) : ∀ z ∈ p.words, WdOk z := fun z hz => by
  cases p with
  | n k =>
    rw [Pt.words, List.mem_singleton] at hz
    subst hz
    rcases h with ⟨_, _, h⟩ | ⟨_, h⟩
    · exact wd_num (by omega)
    · exact wd_num h
  | e x => exact ex_words h.2 z hz
  | nme y =>
    rw [Pt.words, List.mem_singleton] at hz
    subst hz
    exact wd_nm h.2
  | ref y =>
    rw [Pt.words, List.mem_singleton] at hz
    subst hz
    exact wd_nm h.2
theorem ks_words : ∀ {cs : List Nat} {ps : List Pt}, KsOk cs ps → ∀ z ∈ wordsP ps, WdOk z
  | [], [], _, z, hz => by cases hz
  | c :: cs, p :: ps, h, z, hz => by
    rw [wordsP_cons, List.mem_append] at hz
    rcases hz with hz | hz
    · exact pt_words h.1 z hz
    · exact ks_words h.2 z hz
  | [], _ :: _, h, _, _ => h.elim
  | _ :: _, [], h, _, _ => h.elim
theorem es_words : ∀ {es : List Ex}, (∀ e ∈ es, e.ok) → ∀ z ∈ wordsP (es.map Pt.e), WdOk z
  | [], _, z, hz => by cases hz
  | e :: es, h, z, hz => by
    rw [List.map_cons, wordsP_cons, List.mem_append] at hz
    rcases hz with hz | hz
    · exact ex_words (h e List.mem_cons_self) z hz
    · exact es_words (fun e he => h e (List.mem_cons_of_mem _ he)) z hz
theorem row_keysB : ∀ q ∈ rowsG, wdB q.1 = true := by decide +kernel
theorem lookup_mem {t : Str} {v : D} : ∀ {l : List (Str × D)}, l.lookup t = some v → ∃ q ∈ l, q.1 = t
  | [], h => by cases h
  | (a, b) :: r, h => by
    rw [List.lookup_cons] at h
    split at h
    · rename_i hb
      exact ⟨(a, b), List.mem_cons_self, (eq_of_beq hb).symm⟩
    · obtain ⟨q, hq, e⟩ := lookup_mem h
      exact ⟨q, List.mem_cons_of_mem _ hq, e⟩
theorem rw_words {rw : Rw} (h : rw.ok) : ∀ z ∈ rw.words, WdOk z := fun z hz => by
  cases rw with
  | prt wd ps =>
    obtain ⟨sh, h1, _, h3, _⟩ := h
    rw [Rw.words, List.mem_cons] at hz
    rcases hz with rfl | hz
    · obtain ⟨q, hq, e⟩ := lookup_mem h1
      rw [← e]
      exact wd_b (row_keysB q hq)
    · exact ks_words h3 z hz
  | use x c hs es =>
    obtain ⟨hx, hc, hhs, h4, h6, he⟩ := h
    simp only [Rw.words, useW, List.mem_cons, List.mem_append] at hz
    rcases hz with rfl | rfl | rfl | rfl | hz | hz
    · exact wd_b (z := "use") (by decide +kernel)
    · exact wd_nm hx
    · exact wd_nm hc
    · exact wd_num (by omega)
    · exact wd_nm (hhs z hz)
    · exact es_words (fun e hm => (he e hm).1) z hz
theorem join_mem {S : List Nat} {s : Nat} : ∀ {ps : List (List Nat)}, s ∈ TL.joinL S ps → s ∈ S ∨ ∃ p ∈ ps, s ∈ p
  | [], h => by cases h
  | [p], h => .inr ⟨p, List.mem_cons_self, h⟩
  | p :: q :: r, h => by
    rw [TL.joinL, List.mem_append, List.mem_append] at h
    rcases h with h | h | h
    · exact .inr ⟨p, List.mem_cons_self, h⟩
    · exact .inl h
    · rcases join_mem h with h | ⟨z, hz, h⟩
      · exact .inl h
      · exact .inr ⟨z, List.mem_cons_of_mem _ hz, h⟩
theorem join_len {S : List Nat} {B : Nat} : ∀ {ps : List (List Nat)}, (∀ p ∈ ps, p.length ≤ B) → (TL.joinL S ps).length ≤ ps.length * (B + S.length)
  | [], _ => by simp [TL.joinL]
  | [p], h => by
    have := h p List.mem_cons_self
    simp only [TL.joinL, List.length_singleton, Nat.one_mul]
    omega
  | p :: q :: r, h => by
    have h1 := h p List.mem_cons_self
    have h2 := join_len (S := S) (ps := q :: r) fun z hz => h z (List.mem_cons_of_mem _ hz)
    rw [TL.joinL, List.length_append, List.length_append, List.length_cons (as := q :: r), Nat.add_mul, Nat.one_mul]
    omega
theorem sp_tl : TL.tl " " = 32 :: [] := by decide +kernel
theorem nl_tl : TL.tl "\n" = 10 :: [] := by decide +kernel
def lineOf (ws : List Str) : Str := Txt.join " " ws
def textOf (rows : List Rw) : Str := Txt.join "\n" (rows.map fun r => lineOf r.words)
theorem line_tl (ws : List Str) : TL.tl (lineOf ws) = TL.joinL [32] (ws.map TL.tl) := by
  unfold lineOf
  rw [TL.join_eq, TL.tl_join, sp_tl]
theorem tl_len (z : Str) : (TL.tl z).length = z.length := by
  show z.cps.toList.length = _
  rw [Array.length_toList]
  rfl
theorem line_len {ws : List Str} (h : ∀ z ∈ ws, WdOk z) : (lineOf ws).length ≤ ws.length * 14 := by
  rw [← tl_len, line_tl]
  have := join_len (S := [32]) (B := 13) (ps := ws.map TL.tl) fun p hp => by
    obtain ⟨z, hz, rfl⟩ := List.mem_map.mp hp
    rw [tl_len]
    exact (h z hz).2.2.2
  rw [List.length_map] at this
  exact this
theorem line_nl {ws : List Str} (h : ∀ z ∈ ws, WdOk z) : 10 ∉ TL.tl (lineOf ws) := fun m => by
  rw [line_tl] at m
  rcases join_mem m with m | ⟨p, hp, m⟩
  · simp at m
  · obtain ⟨z, hz, rfl⟩ := List.mem_map.mp hp
    exact (h z hz).2.1 m
theorem line_split {ws : List Str} (h : ∀ z ∈ ws, WdOk z) (hne : ws ≠ []) : Txt.split (lineOf ws) " " = ws := TL.split_join sp_tl (by decide +kernel) hne fun p hp => (h p hp).1
theorem text_tl (rows : List Rw) : TL.tl (textOf rows) = TL.joinL [10] ((rows.map fun r => lineOf r.words).map TL.tl) := by
  unfold textOf
  rw [TL.join_eq, TL.tl_join, nl_tl]
def RowsOk (rows : List Rw) : Prop := rows.length ≤ 100 ∧ (∀ r ∈ rows, r.ok ∧ r.words.length ≤ 200) ∧ (rows.map fun r => r.words.length).sum ≤ 2400
theorem text_len {rows : List Rw} (h : RowsOk rows) : (textOf rows).length ≤ 300000 := by
  rw [← tl_len, text_tl]
  have := join_len (S := [10]) (B := 2800) (ps := (rows.map fun r => lineOf r.words).map TL.tl) fun p hp => by
    obtain ⟨z, hz, rfl⟩ := List.mem_map.mp hp
    obtain ⟨r, hr, rfl⟩ := List.mem_map.mp hz
    rw [tl_len]
    have h1 := line_len (rw_words (h.2.1 r hr).1)
    have h2 := (h.2.1 r hr).2
    omega
  rw [List.length_map, List.length_map] at this
  have h3 := h.1
  have h4 : rows.length * (2800 + [10].length) ≤ 100 * 2801 := Nat.mul_le_mul_right _ h3
  omega
theorem rw_ne (r : Rw) : r.words ≠ [] := by cases r <;> simp [Rw.words]
theorem text_split {rows : List Rw} (h : RowsOk rows) (hne : rows ≠ []) : Txt.split (textOf rows) "\n" = rows.map fun r => lineOf r.words := TL.split_join nl_tl (by decide +kernel) (by simpa using hne) fun p hp => by
  obtain ⟨r, hr, rfl⟩ := List.mem_map.mp hp
  exact line_nl (rw_words (h.2.1 r hr).1)
theorem text_ne {rows : List Rw} (h : RowsOk rows) (hne : rows ≠ []) : textOf rows ≠ "" := fun e => by
  have h1 := text_split h hne
  rw [e] at h1
  have h2 : Txt.split ("" : Str) "\n" = [("" : Str)] := by decide +kernel
  rw [h2] at h1
  cases rows with
  | nil => exact hne rfl
  | cons r rest =>
    have h3 : lineOf r.words = "" := by
      have := congrArg List.head? h1
      simpa using this.symm
    have h4 := line_split (rw_words (h.2.1 r List.mem_cons_self).1) (rw_ne r)
    rw [h3] at h4
    have h5 : Txt.split ("" : Str) " " = [("" : Str)] := by decide +kernel
    rw [h5] at h4
    have h6 := (rw_words (h.2.1 r List.mem_cons_self).1 "" (by rw [← h4]; exact List.mem_cons_self)).2.2.1
    exact absurd h6 (by decide +kernel)
def treesFrom : Nat → List Rw → List D
  | _, [] => []
  | k, r :: rs => r.tree k :: treesFrom (k + 1) rs
def spRead : List EV → (D → Prop) → Prop := fun as P => ∃ rows : List Rw, as = [.d (.str (textOf rows))] ∧ RowsOk rows ∧ P (.tuple (treesFrom 0 rows))
theorem trees_len : ∀ (rows : List Rw) (k : Nat), (treesFrom k rows).length = rows.length
  | [], _ => rfl
  | r :: rs, k => by rw [treesFrom, List.length_cons, List.length_cons, trees_len rs]
section
variable {P : Program} {w : World} {K : PySem.W.Frag} {mg : Str → Option Value} {base : Heap} {C : Addr} {f : Addr} {fd : FuncData}
def pairsF (k : Nat) : List D → List D
  | [] => []
  | x :: xs => .tuple [.int (k : Int), x] :: pairsF (k + 1) xs
theorem pairs_f : ∀ (xs : List D) (k : Nat), xs.mapIdx (fun i x => PyData.tuple [.int ((k + i : Nat) : Int), x]) = pairsF k xs
  | [], _ => rfl
  | x :: xs, k => by
    rw [List.mapIdx_cons, pairsF, ← pairs_f xs (k + 1)]
    have e : (fun i (x : D) => PyData.tuple [.int ((k + 1 + i : Nat) : Int), x]) = fun i x => PyData.tuple [.int ((k + (i + 1) : Nat) : Int), x] := by
      funext i x
      rw [Nat.add_assoc, Nat.add_comm 1 i]
    rw [e]
    rfl
theorem pairs_eq (xs : List D) : pairs xs = pairsF 0 xs := by
  rw [← pairs_f]
  unfold pairs
  simp only [Nat.zero_add]
theorem rows_read {Pc : List D → Prop} : ∀ (rows : List Rw) (k : Nat) (acc : List D) (e0 : EV), (∀ r ∈ rows, r.ok ∧ r.words.length ≤ 200) → acc.length + rows.length ≤ 100 → Pc (acc ++ treesFrom k rows) →
    mLcL (gTp 2 (gsCons 1 (gsCons 2 gsNil))) mYes (mMkM C "row_taken" (spIni C) (spRo C) (mCons (mVar 1) (mCons (mBMt "str" fSplit (mVar 2) (mCons (mC (.str " ")) mNil)) mNil))) [1, 2] (pairsF k (rows.map fun r => PyData.str (lineOf r.words))) acc [e0, .un, .un] Pc
  | [], k, acc, e0, _, _, hP => by
    have e1 : acc ++ treesFrom k [] = acc := List.append_nil _
    rw [e1] at hP
    exact hP
  | r :: rows, k, acc, e0, ho, hl, hP => by
    rw [List.length_cons] at hl
    have big := big_size
    have h1 := ho r List.mem_cons_self
    have h2 := line_len (rw_words h1.1)
    have e := line_split (rw_words h1.1) (rw_ne r)
    refine ⟨rfl, rfl, rfl, rfl, ⟨by decide +kernel, by omega⟩, ?_⟩
    rw [e]
    refine ⟨k, r.words, rfl, rfl, _, rfl, rd_no m_ro k r.words 0, k, r.words, r, rfl, h1.1, rfl, rfl, by omega, ?_⟩
    refine rows_read rows (k + 1) (acc ++ [r.tree k]) e0 (fun q hq => ho q (List.mem_cons_of_mem _ hq)) (by rw [List.length_append, List.length_singleton]; omega) ?_
    rw [List.append_assoc, List.singleton_append]
    exact hP
theorem ok_read_module (T : Tb K w mg C) (mk_RowReader : MkM P w K mg base "RowReader" C 1 ["self", "row", "words"] 0 (spIni C)) (m_row_taken : MthM P w K mg base C "row_taken" 31 ["self"] 0 (spRo C))
    (F : Fun K "read_module" "read_module" s_read_module f fd) : FnG P w K mg base CX0 32 f fd ["text"] (spD K 0 spRead) := by
  have nd := sc_read_module.nd
  refine okDG (k := 31) F sc_read_module (fun as Q h => by obtain ⟨rows, rfl, _⟩ := h; rfl) (fun cdv A fs s H E hr => have hu := hr.rm.units; have hgd := hr.gd; (gss_cons (gs_if (gt_not (gt_val (ge_isi kit_str (by rfl) T.n_isinstance (by rfl) T.n_str (by decide +kernel) (ge_var 0)))) (gss_one gs_never) gss_nil)
      (gss_cons (gs_if (gt_cmp (od_eq hu) (ge_var 0) ge_str (nomark _)) (gss_one (gs_ret (ge_tup ga_nil))) gss_nil)
      (gss_one (gs_ret (ge_callTy cd_tuple (by rfl) T.n_tuple (by decide +kernel) (ga_cons (ge_pub (gf_lc 0 rfl nd (gi_enum (by rfl) T.n_enumerate (ga_cons (ge_bm PySem.F.plainAttrs_str PySem.F.slot_str_split PySem.F.type_str_split md_split (ge_var 0) (ga_cons ge_str ga_nil)) ga_nil)) (blkOk_by (own := [("row", 1), ("line", 2)]) (N := N_read_module) (sc := defScope s_read_module) (by decide +kernel)) (fun _ _ _ _ _ => (gg_tup (n := 2) rfl (ggs_cons (i := 1) (vs := (List.map (·.2) ([("row", 1), ("line", 2)] : List (Str × Nat)))) nd rfl (.inl rfl) (by decide) (ggs_cons (i := 2) (vs := (List.map (·.2) ([("row", 1), ("line", 2)] : List (Str × Nat)))) nd rfl (.inl rfl) (by decide) ggs_nil)))) (fun _ _ _ _ _ => gts_nil) (fun _ _ _ _ _ => (ge_mkm (pl := _) mk_RowReader m_row_taken T.cl (hr.mono (by first | decide | omega)) (hr.mono (by first | decide | omega)) (by rfl) (ga_cons (ge_var 1) (ga_cons (ge_bm PySem.F.plainAttrs_str PySem.F.slot_str_split PySem.F.type_str_split md_split (ge_var 2) (ga_cons ge_str ga_nil)) ga_nil)))))) ga_nil))))))) (by decide) (fun as Q h => ?_)
  obtain ⟨rows, rfl, hr, hQ⟩ := h
  have big := big_size
  have tl := text_len hr
  show match decide (textOf rows = "") with | true => _ | false => _
  by_cases hne : rows = []
  · subst hne
    have e : textOf [] = "" := by decide +kernel
    rw [decide_eq_true e]
    exact ⟨by decide, hQ⟩
  · rw [decide_eq_false (text_ne hr hne)]
    refine ⟨rfl, ⟨by decide +kernel, by omega⟩, ?_⟩
    have em : (rows.map fun r => lineOf r.words).map PyData.str = rows.map fun r => PyData.str (lineOf r.words) := by rw [List.map_map]; rfl
    rw [text_split hr hne, em]
    refine ⟨?_, fun i hi w c => ?_, ?_⟩
    · rw [Nat.mul_comm]
      exact Nat.le_of_eq (Nat.zero_mul _)
    · have : i = 1 ∨ i = 2 := by simpa using hi
      rcases this with rfl | rfl <;> exact fun hz => by cases hz
    · rw [pairs_eq]
      have hl := hr.1
      refine rows_read rows 0 [] (.d (.str (textOf rows))) hr.2.1 (by rw [List.length_nil]; omega) ?_
      rw [List.nil_append]
      exact hQ
end
end L05
namespace L05
open PySem PySem.Spec PyProof.Rows L2 DL
/-! ### what the law makes: shapes, numbers, expressions -/
def shapesL : List (Str × Str) := [("num", "wk"), ("not", "e"), ("pick", "eee"), ("cut", "we"), ("bit", "ke"), ("and", "ee"), ("or", "ee"), ("xor", "ee"), ("sum", "ee"), ("same", "ee"), ("below", "ee"), ("join", "ee")]
def shapesD : D := .dict (shapesL.map fun p => (.str p.1, .str p.2))
def spShapes : List EV → (D → Prop) → Prop := fun as P => as = [] ∧ P shapesD
def spNumb : List EV → (D → Prop) → Prop := fun as P => ∃ s : Str, as = [.hd, .d (.str s)] ∧ (s = "w" → ∀ k : Nat, 1 ≤ k → k ≤ 8 → P (.int (k : Int))) ∧ (s ≠ "w" → ∀ k : Nat, k < 65536 → P (.int (k : Int)))
section
variable {P : Program} {w : World} {K : PySem.W.Frag} {mg : Str → Option Value} {base : Heap} {C : Addr} {f : Addr} {fd : FuncData}
theorem putKD_new {k : Key} {y : D} : ∀ {kvs : List (Key × D)}, k ∉ kvs.map (·.1) → putKD kvs k y = kvs ++ [(k, y)]
  | [], _ => rfl
  | (g, x) :: r, h => by
    have h1 : g ≠ k := fun e => h (by rw [e]; exact List.mem_cons_self)
    rw [putKD, if_neg h1, putKD_new fun m => h (List.mem_cons_of_mem _ m)]
    rfl
theorem shapes_loop {E : DEnds} : ∀ (ws : List Str) (kvs : List (Key × D)) (k1 : EV), ((kvs.map fun p => p.1) ++ ws.map (fun z => (Sum.inr z : Key))).Nodup → kvs.length + ws.length ≤ 100 → (∀ k2, E.nx [.mo none (.dic (kvs ++ ws.map fun z => (Sum.inr z, PyData.str "ee"))), k2]) →
    sForL (gNm 1) (sDputM 0 (mC (.str "ee")) (mVar 1)) (ws.map PyData.str) E [.mo none (.dic kvs), k1]
  | [], kvs, k1, _, _, hE => by
    have h := hE k1
    rw [List.map_nil, List.append_nil] at h
    exact h
  | z :: ws, kvs, k1, nd, hl, hE => by
    have big := big_size
    rw [List.length_cons] at hl
    have hz : (Sum.inr z : Key) ∉ kvs.map (·.1) := fun m => by
      have := (List.nodup_append.mp nd).2.2 _ m _ (List.mem_cons_self)
      exact this rfl
    refine ⟨⟨none, kvs, rfl⟩, ⟨(List.nodup_append.mp nd).1, by omega⟩, ?_⟩
    rw [putKD_new hz]
    refine shapes_loop ws _ _ ?_ (by rw [List.length_append, List.length_singleton]; omega) fun k2 => ?_
    · rw [List.map_append, List.append_assoc]
      exact nd
    · rw [List.append_assoc]
      exact hE k2
def sh5 : List (Str × Str) := [("num", "wk"), ("not", "e"), ("pick", "eee"), ("cut", "we"), ("bit", "ke")]
def sh7 : List Str := ["and", "or", "xor", "sum", "same", "below", "join"]
theorem sh_nd : ((sh5.map fun p => (Sum.inr p.1 : Key)) ++ (sh7.map fun z => (Sum.inr z : Key))).Nodup := by decide +kernel
theorem ok_shapes (T : Tb K w mg C) (F : Fun K "_law_shapes" "_law_shapes" s_law_shapes f fd) : FnG P w K mg base CX0 1 f fd [] (spD K 0 spShapes) := by
  have nd := sc_law_shapes.nd
  refine okDG (k := 0) F sc_law_shapes (fun as Q h => by obtain ⟨rfl, _⟩ := h; rfl) (fun cdv A fs s H E hr => have hu := hr.rm.units; have hgd := hr.gd; (gss_cons (gs_setD (i := 0) [("num", _, _), ("not", _, _), ("pick", _, _), ("cut", _, _), ("bit", _, _)] nd rfl (.inl rfl) (pps_cons pe_str ge_str (pps_cons pe_str ge_str (pps_cons pe_str ge_str (pps_cons pe_str ge_str (pps_cons pe_str ge_str pps_nil))))) (by rfl) (by rfl) (fun z => by cases z) (by decide) (by decide +kernel) (by decide))
      (gss_cons (gs_forC 0 PassesOwn.never rfl (gi_tup (ge_tup (ga_cons ge_str (ga_cons ge_str (ga_cons ge_str (ga_cons ge_str (ga_cons ge_str (ga_cons ge_str (ga_cons ge_str ga_nil))))))))) (gg_name (i := 1) (vs := [1]) nd rfl (.inl rfl) (by decide)) (gss_one (gs_dputM 0 hu ge_str (ge_var 1))))
      (gss_one (gs_ret (ge_var 0)))))) (by decide) (fun as Q h => ?_)
  obtain ⟨rfl, hQ⟩ := h
  refine ⟨(show (7 : Nat) ≤ sizeLine by decide), by decide, ?_⟩
  refine shapes_loop sh7 (sh5.map fun p : Str × Str => ((Sum.inr p.1 : Key), PyData.str p.2)) .un sh_nd (by decide) fun k2 => ?_
  exact hQ
theorem ok_number (T : Tb K w mg C) (c_law_draw : Cal P w K mg base "_law_draw" 1 ["_law_deck_here", "_law_sides"] 1 spDraw) (F : Fun K "_law_number" "_law_number" s_law_number f fd) : FnG P w K mg base CX0 2 f fd ["_law_deck_here", "_law_kind"] (spD K 10 spNumb) := by
  have nd := sc_law_number.nd
  refine okDG (k := 1) F sc_law_number (fun as Q h => by obtain ⟨x, rfl, _⟩ := h; rfl) (fun cdv A fs s H E hr => have hu := hr.rm.units; have hgd := hr.gd; (gss_cons (gs_if (gt_cmp (od_eq hu) (ge_var 1) ge_str (nomark _)) (gss_one (gs_ret (ge_op od_add ge_int (ge_cal c_law_draw (hr.mono (by first | decide | omega)) (by rfl) (ga_hd 0 (ga_cons ge_int ga_nil)))))) gss_nil)
      (gss_one (gs_ret (ge_ix od_ix (ge_lst (ga_cons (ge_cal c_law_draw (hr.mono (by first | decide | omega)) (by rfl) (ga_hd 0 (ga_cons ge_int ga_nil))) (ga_cons (ge_op od_add ge_int (ge_cal c_law_draw (hr.mono (by first | decide | omega)) (by rfl) (ga_hd 0 (ga_cons ge_int ga_nil)))) (ga_cons (ge_cal c_law_draw (hr.mono (by first | decide | omega)) (by rfl) (ga_hd 0 (ga_cons ge_int ga_nil))) (ga_cons ge_int ga_nil))))) (ge_cal c_law_draw (hr.mono (by first | decide | omega)) (by rfl) (ga_hd 0 (ga_cons ge_int ga_nil))) (fun _ _ => rfl)))))) (by decide) (fun as Q h => ?_)
  obtain ⟨x, rfl, h1, h2⟩ := h
  show match decide (x = "w") with | true => _ | false => _
  by_cases hx : x = "w"
  · rw [decide_eq_true hx]
    refine ⟨8, rfl, by decide, by decide, fun r r0 r1 => ?_⟩
    have := h1 hx (1 + r).toNat (by omega) (by omega)
    have e : (((1 + r).toNat : Nat) : Int) = 1 + r := by omega
    rw [e] at this
    exact this
  · rw [decide_eq_false hx]
    refine ⟨12, rfl, by decide, by decide, fun a a0 a1 => ⟨3, rfl, by decide, by decide, fun b b0 b1 => ⟨65536, rfl, by decide, by decide, fun c c0 c1 => ⟨(show (4 : Nat) ≤ sizeLine by decide), 4, rfl, by decide, by decide, fun d d0 d1 => ?_⟩⟩⟩⟩
    have hd : d = 0 ∨ d = 1 ∨ d = 2 ∨ d = 3 := by omega
    have go : ∀ v : Int, 0 ≤ v → v < 65536 → Q (.int v) := fun v v0 v1 => by
      have := h2 hx v.toNat (by omega)
      have e : ((v.toNat : Nat) : Int) = v := by omega
      rw [e] at this
      exact this
    rcases hd with rfl | rfl | rfl | rfl
    · exact ⟨_, rfl, go _ (by omega) (by omega)⟩
    · exact ⟨_, rfl, go _ (by omega) (by omega)⟩
    · exact ⟨_, rfl, go _ (by omega) (by omega)⟩
    · exact ⟨_, rfl, go _ (by omega) (by omega)⟩
end
end L05
namespace L05
open PySem PySem.Spec PyProof.Rows L2 DL
def Pt.ops : Pt → Nat
  | .e x => x.ops
  | _ => 0
def opsP : List Pt → Nat
  | [] => 0
  | p :: ps => p.ops + opsP ps
theorem opsP_snoc (x : Pt) : ∀ ps : List Pt, opsP (ps ++ [x]) = opsP ps + x.ops
  | [] => by simp [opsP]
  | p :: ps => by
    rw [List.cons_append, opsP, opsP, opsP_snoc x ps]
    omega
theorem KsOk.snoc : ∀ {cs : List Nat} {ps : List Pt} {c : Nat} {p : Pt}, KsOk cs ps → KOk c p → KsOk (cs ++ [c]) (ps ++ [p])
  | [], [], _, _, _, h => ⟨h, trivial⟩
  | _ :: _, _ :: _, _, _, h, h2 => ⟨h.1, KsOk.snoc h.2 h2⟩
  | [], _ :: _, _, _, h, _ => h.elim
  | _ :: _, [], _, _, h, _ => h.elim
def sortsL : List Str := ["not", "pick", "cut", "bit", "and", "or", "xor", "sum", "same", "below", "join"]
def shOf (z : Str) : Option Str := shapesL.lookup z
/-- from the word and the parts: the expression -/
theorem ex_of {z sh : Str} {ps : List Pt} {d : Nat} (hz : z ∈ sortsL) (hs : shOf z = some sh) (hk : KsOk sh.cps.toList ps) (hd : ∀ pt ∈ ps, pt.dep ≤ d) : ∃ e : Ex, e.toD = .tuple (.str z :: ps.map Pt.toD) ∧ e.ok ∧ e.ops = opsP ps + 1 ∧ e.dep ≤ d + 1 := by
  have two : ∀ o : _root_.Fin 7, sh = "ee" → z = twoS o → ∃ e : Ex, e.toD = .tuple (.str z :: ps.map Pt.toD) ∧ e.ok ∧ e.ops = opsP ps + 1 ∧ e.dep ≤ d + 1 := fun o e1 e2 => by
    subst e1
    rw [t_ee] at hk
    match ps, hk with
    | [.e a, .e b], hk =>
      refine ⟨.two o a b, by rw [e2]; rfl, ⟨hk.1.2, hk.2.1.2⟩, by simp [opsP, Pt.ops, Ex.ops], ?_⟩
      have h1 : a.dep ≤ d := hd (.e a) (by simp)
      have h2 : b.dep ≤ d := hd (.e b) (by simp)
      simp only [Ex.dep]
      omega
    | [.e a, .n k], hk => rcases hk.2.1 with ⟨h, _⟩ | ⟨h, _⟩ <;> cases h
    | [.e a, .nme k], hk => cases hk.2.1.1
    | [.e a, .ref k], hk => cases hk.2.1.1
    | .n k :: _, hk => rcases hk.1 with ⟨h, _⟩ | ⟨h, _⟩ <;> cases h
    | .nme k :: _, hk => cases hk.1.1
    | .ref k :: _, hk => cases hk.1.1
    | [.e a], hk => exact hk.2.elim
    | .e a :: _ :: _ :: _, hk => exact hk.2.2.elim
  simp only [sortsL, List.mem_cons, List.not_mem_nil, or_false] at hz
  rcases hz with rfl | rfl | rfl | rfl | rfl | rfl | rfl | rfl | rfl | rfl | rfl
  · have : sh = "e" := Option.some.inj (hs.symm.trans (by decide +kernel))
    subst this
    rw [t_e] at hk
    match ps, hk with
    | [.e a], hk =>
      refine ⟨.not a, rfl, hk.1.2, by simp [opsP, Pt.ops, Ex.ops], ?_⟩
      have h1 : a.dep ≤ d := hd (.e a) (by simp)
      simp only [Ex.dep]
      omega
    | .n k :: _, hk => rcases hk.1 with ⟨h, _⟩ | ⟨h, _⟩ <;> cases h
    | .nme k :: _, hk => cases hk.1.1
    | .ref k :: _, hk => cases hk.1.1
    | .e a :: _ :: _, hk => exact hk.2.elim
  · have : sh = "eee" := Option.some.inj (hs.symm.trans (by decide +kernel))
    subst this
    rw [t_eee] at hk
    match ps, hk with
    | [.e a, .e b, .e c], hk =>
      refine ⟨.pick a b c, rfl, ⟨hk.1.2, hk.2.1.2, hk.2.2.1.2⟩, by simp [opsP, Pt.ops, Ex.ops]; omega, ?_⟩
      have h1 : a.dep ≤ d := hd (.e a) (by simp)
      have h2 : b.dep ≤ d := hd (.e b) (by simp)
      have h3 : c.dep ≤ d := hd (.e c) (by simp)
      simp only [Ex.dep]
      omega
    | .n k :: _, hk => rcases hk.1 with ⟨h, _⟩ | ⟨h, _⟩ <;> cases h
    | .nme k :: _, hk => cases hk.1.1
    | .ref k :: _, hk => cases hk.1.1
    | .e _ :: .n k :: _, hk => rcases hk.2.1 with ⟨h, _⟩ | ⟨h, _⟩ <;> cases h
    | .e _ :: .nme k :: _, hk => cases hk.2.1.1
    | .e _ :: .ref k :: _, hk => cases hk.2.1.1
    | .e _ :: .e _ :: .n k :: _, hk => rcases hk.2.2.1 with ⟨h, _⟩ | ⟨h, _⟩ <;> cases h
    | .e _ :: .e _ :: .nme k :: _, hk => cases hk.2.2.1.1
    | .e _ :: .e _ :: .ref k :: _, hk => cases hk.2.2.1.1
    | [.e a], hk => exact hk.2.elim
    | [.e a, .e b], hk => exact hk.2.2.elim
    | .e a :: .e b :: .e c :: _ :: _, hk => exact hk.2.2.2.elim
  · have : sh = "we" := Option.some.inj (hs.symm.trans (by decide +kernel))
    subst this
    rw [t_we] at hk
    match ps, hk with
    | [.n k, .e a], hk =>
      have hw : 1 ≤ k ∧ k ≤ 8 := by
        rcases hk.1 with ⟨_, h⟩ | ⟨h, _⟩
        · exact h
        · cases h
      refine ⟨.cut k a, rfl, ⟨hw, hk.2.1.2⟩, by simp [opsP, Pt.ops, Ex.ops], ?_⟩
      have h1 : a.dep ≤ d := hd (.e a) (by simp)
      simp only [Ex.dep]
      omega
    | .e a :: _, hk => cases hk.1.1
    | .nme k :: _, hk => cases hk.1.1
    | .ref k :: _, hk => cases hk.1.1
    | .n _ :: .n k :: _, hk => rcases hk.2.1 with ⟨h, _⟩ | ⟨h, _⟩ <;> cases h
    | .n _ :: .nme k :: _, hk => cases hk.2.1.1
    | .n _ :: .ref k :: _, hk => cases hk.2.1.1
    | [.n _], hk => exact hk.2.elim
    | .n _ :: .e a :: _ :: _, hk => exact hk.2.2.elim
  · have : sh = "ke" := Option.some.inj (hs.symm.trans (by decide +kernel))
    subst this
    rw [t_ke] at hk
    match ps, hk with
    | [.n k, .e a], hk =>
      have hw : k < 65536 := by
        rcases hk.1 with ⟨h, _⟩ | ⟨_, h⟩
        · cases h
        · exact h
      refine ⟨.bit k a, rfl, ⟨hw, hk.2.1.2⟩, by simp [opsP, Pt.ops, Ex.ops], ?_⟩
      have h1 : a.dep ≤ d := hd (.e a) (by simp)
      simp only [Ex.dep]
      omega
    | .e a :: _, hk => cases hk.1.1
    | .nme k :: _, hk => cases hk.1.1
    | .ref k :: _, hk => cases hk.1.1
    | .n _ :: .n k :: _, hk => rcases hk.2.1 with ⟨h, _⟩ | ⟨h, _⟩ <;> cases h
    | .n _ :: .nme k :: _, hk => cases hk.2.1.1
    | .n _ :: .ref k :: _, hk => cases hk.2.1.1
    | [.n _], hk => exact hk.2.elim
    | .n _ :: .e a :: _ :: _, hk => exact hk.2.2.elim
  all_goals have he : sh = "ee" := Option.some.inj (hs.symm.trans (by decide +kernel))
  · exact two 0 he rfl
  · exact two 1 he rfl
  · exact two 2 he rfl
  · exact two 3 he rfl
  · exact two 4 he rfl
  · exact two 5 he rfl
  · exact two 6 he rfl
theorem sorts_sh : ∀ z ∈ sortsL, (shOf z).isSome = true ∧ ∀ sh ∈ shOf z, sh.cps.toList.length ≤ 3 ∧ ∀ c ∈ sh.cps.toList, c = 101 ∨ c = 119 ∨ c = 107 := by decide +kernel
def eC : Nat → Nat
  | 0 => 0
  | L + 1 => 100 + 3 * (eC L + 30)
def spExpr (L : Nat) : SpM := fun as P => ∃ (left : Nat) (r : Int), as = [.hd, .d (.int (left : Int)), .mo (some 0) (.lst [.int r])] ∧ 1 ≤ left ∧ left ≤ L ∧ left ≤ 100 ∧ ∀ (e : Ex) (r' : Int), e.ok → e.dep ≤ left → e.ops + r'.toNat ≤ r.toNat → P e.toD [.lst [.int r']]
theorem val_sh {z sh : Str} (hs : shOf z = some sh) : valDD (shapesL.map fun p => (PyData.str p.1, PyData.str p.2)) (Sum.inr z) = some (.str sh) := by
  have key : ∀ l : List (Str × Str), l.lookup z = some sh → valDD (l.map fun p => (PyData.str p.1, PyData.str p.2)) (Sum.inr z) = some (.str sh) := fun l => by
    induction l with
    | nil => intro h; cases h
    | cons p l ih =>
      intro h
      obtain ⟨a, b⟩ := p
      rw [List.lookup_cons] at h
      rw [List.map_cons, valDD]
      by_cases ha : z = a
      · subst ha
        rw [beq_self_eq_true] at h
        show (if keyOf (PyData.str z) = some (Sum.inr z) then some (PyData.str b) else _) = _
        rw [if_pos (show keyOf (PyData.str z) = some (Sum.inr z) from rfl), (Option.some.inj h : b = sh)]
      · rw [beq_eq_false_iff_ne.mpr ha] at h
        rw [if_neg fun e => ha ?_]
        · exact ih h
        · have e : some (Sum.inr a : Key) = some (Sum.inr z) := e
          exact (Sum.inr.inj (Option.some.inj e)).symm
  exact key _ hs
section
variable {P : Program} {w : World} {K : PySem.W.Frag} {mg : Str → Option Value} {base : Heap} {C : Addr} {f : Addr} {fd : FuncData}
theorem expr_loop {L d : Nat} {wd : D} {E : DEnds} : ∀ (cs cs0 : List Nat) (ps : List Pt) (r : Int) (least : Nat) (k1 k3 k4 k5 k6 k9 : EV), KsOk cs0 ps → (∀ c ∈ cs, c = 101 ∨ c = 119 ∨ c = 107) → 1 ≤ least → least ≤ d → d ≤ L ∧ d ≤ 100 → (∀ pt ∈ ps, pt.dep ≤ d) → ps.length + cs.length ≤ 100 →
    (∀ (ps' : List Pt) (r' : Int) (least' : Nat) (k9' : EV), KsOk (cs0 ++ cs) ps' → (∀ pt ∈ ps', pt.dep ≤ d) → opsP ps' + r'.toNat ≤ opsP ps + r.toNat → E.nx [.hd, k1, .mo (some 0) (.lst [.int r']), k3, k4, k5, k6, .own (wd :: ps'.map Pt.toD), .d (.int (least' : Int)), k9']) →
    sForL (gNm 9) (sSeq (sApp 7 (mIf (mCmpT cEq (mVar 9) (mC (.str "e"))) (mCallM (spExpr L) (mConsH 0 (mCons (mVar 8) (mConsM 2 mNil)))) (mCall spNumb (mConsH 0 (mCons (mVar 9) mNil))))) (sSet 8 (mOp dAdd (mCall spDraw (mConsH 0 (mCons (mVar 8) mNil))) (mC (.int 1))))) (cs.map fun c => PyData.str ⟨#[c]⟩) E [.hd, k1, .mo (some 0) (.lst [.int r]), k3, k4, k5, k6, .own (wd :: ps.map Pt.toD), .d (.int (least : Int)), k9]
  | [], cs0, ps, r, least, k1, k3, k4, k5, k6, k9, hk, _, _, _, _, hd, _, hE => by
    have h := hE ps r least k9 (by rw [List.append_nil]; exact hk) hd (Nat.le_refl _)
    exact h
  | c :: cs, cs0, ps, r, least, k1, k3, k4, k5, k6, k9, hk, hc, l1, l2, l3, hd, hl, hE => by
    have big := big_size
    rw [List.length_cons] at hl
    have e1 : (⟨#[101]⟩ : Str) = "e" := by decide +kernel
    have e2 : ¬ (⟨#[119]⟩ : Str) = "e" := by decide +kernel
    have e3 : ¬ (⟨#[107]⟩ : Str) = "e" := by decide +kernel
    have e4 : (⟨#[119]⟩ : Str) = "w" := by decide +kernel
    have e5 : (⟨#[107]⟩ : Str) ≠ "w" := by decide +kernel
    have step : ∀ (pt : Pt) (r' : Int) (q : Int), KOk c pt → pt.dep ≤ d → pt.ops + r'.toNat ≤ r.toNat → 0 ≤ q → q < least → sForL (gNm 9) (sSeq (sApp 7 (mIf (mCmpT cEq (mVar 9) (mC (.str "e"))) (mCallM (spExpr L) (mConsH 0 (mCons (mVar 8) (mConsM 2 mNil)))) (mCall spNumb (mConsH 0 (mCons (mVar 9) mNil))))) (sSet 8 (mOp dAdd (mCall spDraw (mConsH 0 (mCons (mVar 8) mNil))) (mC (.int 1))))) (cs.map fun c => PyData.str ⟨#[c]⟩) E [.hd, k1, .mo (some 0) (.lst [.int r']), k3, k4, k5, k6, .own (wd :: ps.map Pt.toD ++ [pt.toD]), .d (.int (q + 1)), .d (.str ⟨#[c]⟩)] := fun pt r' q hp h1 h2 q0 q1 => by
      have eq : q + 1 = ((q.toNat + 1 : Nat) : Int) := by omega
      have el : wd :: ps.map Pt.toD ++ [pt.toD] = wd :: (ps ++ [pt]).map Pt.toD := by rw [List.map_append]; rfl
      rw [eq, el]
      refine expr_loop cs (cs0 ++ [c]) (ps ++ [pt]) r' (q.toNat + 1) k1 k3 k4 k5 k6 _ (hk.snoc hp) (fun x hx => hc x (List.mem_cons_of_mem _ hx)) (by omega) (by omega) l3 (fun y hy => ?_) (by rw [List.length_append, List.length_singleton]; omega) fun ps' r2 l2 k9' a1 a2 a3 => ?_
      · rcases List.mem_append.mp hy with hy | hy
        · exact hd y hy
        · rw [List.mem_singleton.mp hy]
          exact h1
      · rw [List.append_assoc, List.singleton_append] at a1
        rw [opsP_snoc] at a3
        exact hE ps' r2 l2 k9' a1 a2 (by omega)
    have hsz : (wd :: ps.map Pt.toD).length < sizeLine := by
      rw [List.length_cons, List.length_map]
      omega
    rcases hc c List.mem_cons_self with rfl | rfl | rfl
    · refine ⟨⟨_, rfl⟩, mif_by true (fun Pc h => ?_) (fun _ => ?_) (fun z => by cases z)⟩
      · show Pc (decide ((⟨#[101]⟩ : Str) = "e")) _
        rw [decide_eq_true e1]
        exact h
      refine ⟨(show ([2] : List Nat).Nodup by decide), _, rfl, least, r, rfl, l1, by have := l3.1; omega, by have := l3.2; omega, fun e r' ho h1 h2 => ⟨hsz, (least : Int), rfl, by omega, by have := l3.2; omega, fun q q0 q1 => ?_⟩⟩
      exact step (.e e) r' q ⟨rfl, ho⟩ (show e.dep ≤ d by omega) h2 q0 q1
    · refine ⟨⟨_, rfl⟩, mif_by false (fun Pc h => ?_) (fun z => by cases z) (fun _ => ?_)⟩
      · show Pc (decide ((⟨#[119]⟩ : Str) = "e")) _
        rw [decide_eq_false e2]
        exact h
      refine ⟨_, rfl, fun _ k a b => ⟨hsz, (least : Int), rfl, by omega, by have := l3.2; omega, fun q q0 q1 => ?_⟩, fun z => absurd e4 z⟩
      exact step (.n k) r q (.inl ⟨rfl, a, b⟩) (Nat.zero_le _) (show 0 + r.toNat ≤ r.toNat by omega) q0 q1
    · refine ⟨⟨_, rfl⟩, mif_by false (fun Pc h => ?_) (fun z => by cases z) (fun _ => ?_)⟩
      · show Pc (decide ((⟨#[107]⟩ : Str) = "e")) _
        rw [decide_eq_false e3]
        exact h
      refine ⟨_, rfl, fun z => absurd z e5, fun _ k a => ⟨hsz, (least : Int), rfl, by omega, by have := l3.2; omega, fun q q0 q1 => ?_⟩⟩
      exact step (.n k) r q (.inr ⟨rfl, a⟩) (Nat.zero_le _) (show 0 + r.toNat ≤ r.toNat by omega) q0 q1
theorem ok_expression {L : Nat} (T : Tb K w mg C) (c_law_draw : Cal P w K mg base "_law_draw" 1 ["_law_deck_here", "_law_sides"] 1 spDraw) (c_law_shapes : Cal P w K mg base "_law_shapes" 1 [] 0 spShapes) (c_law_number : Cal P w K mg base "_law_number" 2 ["_law_deck_here", "_law_kind"] 10 spNumb) (c_law_name : Cal P w K mg base "_law_name" 3 ["_law_deck_here"] 20 spName)
    (c_law_expression : CalM P w K mg base "_law_expression" (L + 4) ["_law_deck_here", "_law_left", "_law_room"] (eC L) (spExpr L))
    (F : Fun K "_law_expression" "_law_expression" s_law_expression f fd) : FnG P w K mg base CX0 (L + 5) f fd ["_law_deck_here", "_law_left", "_law_room"] (spDM K (eC (L + 1)) (spExpr (L + 1))) := by
  have nd := sc_law_expression.nd
  refine okDM (k := L + 4) F sc_law_expression (fun as Q h => by obtain ⟨left, r, rfl, _⟩ := h; rfl) (fun cdv A fs s H E hr => have hu := hr.rm.units; have hgd := hr.gd; (gss_cons (gs_set (i := 3) nd rfl (.inl rfl) (ge_cal0 c_law_shapes (hr.mono (by first | decide | omega)) (by rfl)))
      (gss_cons (gs_set (i := 4) nd rfl (.inl rfl) (ge_cal c_law_draw (hr.mono (by first | decide | omega)) (by rfl) (ga_hd 0 (ga_cons ge_int ga_nil))))
      (gss_cons (gs_ixM 2 (ge_op od_sub (ge_ixM 2 ge_int (fun _ _ => rfl)) ge_int) ge_int)
      (gss_cons (gs_if (PW.pt (gt_or (gt_cmp od_lt (ge_var 1) ge_int (nomark _)) (gt_or (gt_cmp od_lt (ge_ixM 2 ge_int (fun _ _ => rfl)) ge_int (nomark _)) (pw_or1 (gt_cmp od_lt (ge_var 4) ge_int (nomark _)))))) (gss_cons (gs_if (gt_cmp (od_eq hu) (ge_cal c_law_draw (hr.mono (by first | decide | omega)) (by rfl) (ga_hd 0 (ga_cons ge_int ga_nil))) ge_int (nomark _)) (gss_one (gs_ret (ge_tup (ga_cons ge_str (ga_cons (ge_cal c_law_number (hr.mono (by first | decide | omega)) (by rfl) (ga_hd 0 (ga_cons ge_str ga_nil))) (ga_cons (ge_cal c_law_number (hr.mono (by first | decide | omega)) (by rfl) (ga_hd 0 (ga_cons ge_str ga_nil))) ga_nil)))))) gss_nil)
      (gss_cons (gs_set (i := 5) nd rfl (.inl rfl) (ge_cal c_law_name (hr.mono (by first | decide | omega)) (by rfl) (ga_hd 0 ga_nil)))
      (gss_one (gs_ret (ge_tup (ga_cons ge_str (ga_cons (ge_op od_add (ge_var 5) (ge_ix od_ix (ge_lst (ga_cons ge_str (ga_cons (ge_op od_add ge_str (ge_cal c_law_name (hr.mono (by first | decide | omega)) (by rfl) (ga_hd 0 ga_nil))) ga_nil))) (ge_callTy cd_int (by rfl) T.n_int (by decide +kernel) (ga_cons (ge_cmp (od_eq hu) (ge_cal c_law_draw (hr.mono (by first | decide | omega)) (by rfl) (ga_hd 0 (ga_cons ge_int ga_nil))) ge_int (nomark _)) ga_nil)) (fun _ _ => rfl))) ga_nil))))))) gss_nil)
      (gss_cons (gs_set (i := 6) nd rfl (.inl rfl) (ge_lst (ga_cons ge_str (ga_cons ge_str (ga_cons ge_str (ga_cons ge_str (ga_cons ge_str (ga_cons ge_str (ga_cons ge_str (ga_cons ge_str (ga_cons ge_str (ga_cons ge_str (ga_cons ge_str ga_nil)))))))))))))
      (gss_cons (gs_set (i := 5) nd rfl (.inl rfl) (ge_ix od_ix (ge_var 6) (ge_cal c_law_draw (hr.mono (by first | decide | omega)) (by rfl) (ga_hd 0 (ga_cons ge_int ga_nil))) (fun _ _ => rfl)))
      (gss_cons (gs_parFS rfl nd (i := 7) (j := 8) (kb := 1) rfl rfl (by decide) rfl rfl (gf_lst (ga_cons (ge_var 5) ga_nil)) rfl (.inl rfl) (by rfl))
      (gss_cons (gs_forC (3 * (eC L + 30)) PassesOwn.never rfl (gi_str (ge_dix hu (ge_var 3) (ge_var 5) (fun _ _ => rfl))) (gg_name (i := 9) (vs := [9]) nd rfl (.inl rfl) (by decide)) (gss_cons (gs_append (i := 7) rfl (.inl rfl) (ge_if (gt_cmp (od_eq hu) (ge_var 9) ge_str (nomark _)) (ge_calM c_law_expression (hr.mono (by first | decide | omega)) (by rfl) (gb_hd 0 (gb_cons (ge_var 8) (gb_mo 2 gb_nil)))) (ge_cal c_law_number (hr.mono (by first | decide | omega)) (by rfl) (ga_hd 0 (ga_cons (ge_var 9) ga_nil)))))
      (gss_one (gs_set (i := 8) nd rfl (.inl rfl) (ge_op od_add (ge_cal c_law_draw (hr.mono (by first | decide | omega)) (by rfl) (ga_hd 0 (ga_cons (ge_var 8) ga_nil))) ge_int)))))
      (gss_one (gs_ret (ge_callTy cd_tuple (by rfl) T.n_tuple (by decide +kernel) (ga_cons (ge_var 7) ga_nil))))))))))))) (by simp only [eC]; omega) (fun as Q h => ?_)
  obtain ⟨left, r, rfl, hl1, hl2, hl3, hQ⟩ := h
  have big := big_size
  refine ⟨rfl, 12, rfl, by decide, by decide, fun way w0 w1 => ?_⟩
  refine ⟨⟨_, _, rfl⟩, _, rfl, ⟨_, _, rfl⟩, 0, rfl, ?_⟩
  dsimp only
  change sSeq (sIf _ _ sNext) _ _ [.hd, .d (.int (left : Int)), .mo (some 0) (.lst [.int (r - 1)]), .d shapesD, .d (.int way), .un, .un, .un, .un, .un]
  refine if_by (decide ((left : Int) < 2) || (decide (r - 1 < 0) || decide (way < 3))) (fun Pc h => ?_) (fun hb => ?_) (fun hb => ?_)
  · show match decide ((left : Int) < 2) with | true => Pc true _ | false => _
    cases h1 : decide ((left : Int) < 2) with
    | true =>
      rw [h1] at h
      exact h
    | false =>
      rw [h1] at h
      refine ⟨⟨_, _, rfl⟩, _, rfl, ?_⟩
      show match decide (r - 1 < 0) with | true => Pc true _ | false => _
      cases h2 : decide (r - 1 < 0) with
      | true =>
        rw [h2] at h
        exact h
      | false =>
        rw [h2] at h
        exact h
  · have leaf : ∀ e : Ex, e.ok → e.dep = 1 → e.ops = 0 → Q e.toD [.lst [.int (r - 1)]] := fun e h1 h2 h3 => hQ e _ h1 (by omega) (by omega)
    refine ⟨3, rfl, by decide, by decide, fun d d0 d1 => ?_⟩
    refine dec_ite (fun _ => ?_) fun _ => ?_
    · refine ⟨"w", rfl, fun _ k k1 k2 => ?_, fun z => absurd rfl z⟩
      refine ⟨"k", rfl, fun z => absurd z (by decide +kernel), fun _ k' k3 => ?_⟩
      exact ⟨(show (3 : Nat) ≤ sizeLine by decide), _, rfl, leaf (.num k k') ⟨k1, k2, k3⟩ rfl rfl⟩
    · refine ⟨rfl, fun a ha => ⟨rfl, fun b hb => ?_⟩⟩
      have la := nm_len ha
      have lb := nm_len hb
      have lab : ("." ++ b : Str).length ≤ 7 := by rw [len_app, dot_len]; omega
      refine ⟨by rw [dot_len]; omega, (show (2 : Nat) ≤ sizeLine by decide), 4, rfl, by decide, by decide, fun d' d0' d1' => ?_⟩
      show ∃ x, atI [PyData.str "", .str ("." ++ b)] (if decide (d' = 0) then 1 else 0) = some x ∧ _
      cases decide (d' = 0) with
      | true =>
        exact ⟨_, rfl, by omega, (show (2 : Nat) ≤ sizeLine by decide), _, rfl, leaf (.nm (a ++ ("." ++ b))) (.inr ⟨a, b, ha, hb, rfl⟩) rfl rfl⟩
      | false =>
        refine ⟨_, rfl, (show a.length + 0 ≤ sizeLine by omega), (show (2 : Nat) ≤ sizeLine by decide), _, rfl, ?_⟩
        rw [app_nil]
        exact leaf (.nm a) (.inl ha) rfl rfl
  · simp only [Bool.or_eq_false_iff, decide_eq_false_iff_not] at hb
    obtain ⟨b1, b2, b3⟩ := hb
    refine ⟨(show (11 : Nat) ≤ sizeLine by decide), 11, rfl, by decide, by decide, fun i i0 i1 => ?_⟩
    obtain ⟨x, ex, xm, _⟩ := atI_lt (xs := sortsL.map PyData.str) (i := i) (by omega) (by simpa [sortsL] using i1)
    obtain ⟨z, hz, rfl⟩ := List.mem_map.mp xm
    obtain ⟨hs1, hs2⟩ := sorts_sh z hz
    obtain ⟨sh, hs⟩ := Option.isSome_iff_exists.mp hs1
    obtain ⟨hc3, hck⟩ := hs2 sh hs
    refine ⟨_, ex, (show (1 : Nat) ≤ sizeLine by decide), _, val_sh hs, ?_, ?_⟩
    · show (sh.cps.toList.map fun c => PyData.str ⟨#[c]⟩).length * _ ≤ 3 * (eC L + 30)
      rw [List.length_map]
      exact Nat.mul_le_mul hc3 (by omega)
    · have e8 : ((left : Int) - 1) = ((left - 1 : Nat) : Int) := by omega
      refine expr_loop (L := L) (d := left - 1) (wd := .str z) sh.cps.toList [] [] (r - 1) (left - 1) _ _ _ _ _ _ trivial hck (by omega) (by omega) ⟨by omega, by omega⟩ (fun pt hp => by cases hp) (by rw [List.length_nil]; omega) ?_ |> fun h => by rw [e8]; exact h
      intro ps' r' least' k9 hk hd ho
      obtain ⟨e, h1, h2, h3, h4⟩ := ex_of hz hs hk hd
      refine ⟨[.lst [.int r']], rfl, ?_⟩
      rw [← h1]
      refine hQ e r' h2 (by omega) ?_
      have : opsP [] = 0 := rfl
      omega
end
end L05
namespace L05
open PySem PySem.Spec PyProof.Rows L2 DL
/-! ### what the law makes: rows, modules -/
def rC : Nat := 1000 + 20 * eC 12
def MdRw (rw : Rw) : Prop := rw.ok ∧ rw.words.length ≤ 200
def spRow : List EV → (D → Prop) → Prop := fun as P => ∃ deep : Nat, as = [.hd, .d (.int (deep : Int))] ∧ 1 ≤ deep ∧ deep ≤ 12 ∧ ∀ rw : Rw, MdRw rw → P rw.toD
def spModule : List EV → (D → Prop) → Prop := fun as P => ∃ deep : Nat, as = [.hd, .d (.int 12), .d (.int (deep : Int))] ∧ 1 ≤ deep ∧ deep ≤ 12 ∧ ∀ rows : List Rw, rows.length ≤ 12 → (∀ r ∈ rows, MdRw r) → P (.list (rows.map Rw.toD))
theorem t_x : ("x" : Str).cps.toList = [120] := by decide +kernel
theorem t_xwx : ("xwx" : Str).cps.toList = [120, 119, 120] := by decide +kernel
theorem t_xwxe : ("xwxe" : Str).cps.toList = [120, 119, 120, 101] := by decide +kernel
theorem t_xwe : ("xwe" : Str).cps.toList = [120, 119, 101] := by decide +kernel
theorem t_xwxke : ("xwxke" : Str).cps.toList = [120, 119, 120, 107, 101] := by decide +kernel
theorem t_xxkn : ("xxkn" : Str).cps.toList = [120, 120, 107, 110] := by decide +kernel
theorem r_clock : rowsG.lookup ("clock" : Str) = some (.str "x") := isS_eq (by decide +kernel)
theorem r_in : rowsG.lookup ("in" : Str) = some (.str "xwx") := isS_eq (by decide +kernel)
theorem r_out : rowsG.lookup ("out" : Str) = some (.str "xwxe") := isS_eq (by decide +kernel)
theorem r_wire : rowsG.lookup ("wire" : Str) = some (.str "xwe") := isS_eq (by decide +kernel)
theorem r_box : rowsG.lookup ("box" : Str) = some (.str "xwxke") := isS_eq (by decide +kernel)
theorem r_cross : rowsG.lookup ("cross" : Str) = some (.str "xxkn") := isS_eq (by decide +kernel)
theorem md_clock {x : Str} (hx : NmOk x) : MdRw (.prt "clock" [.nme x]) := by
  refine ⟨⟨"x", r_clock, by decide +kernel, by rw [t_x]; exact ⟨⟨rfl, hx⟩, trivial⟩, by simp, fun pt hp => ?_⟩, by simp [Rw.words, wordsP, Pt.words]⟩
  simp only [List.mem_cons, List.not_mem_nil, or_false] at hp
  subst hp
  simp [Pt.dep]
theorem md_in {x c : Str} {k : Nat} (hx : NmOk x) (hc : NmOk c) (k1 : 1 ≤ k) (k2 : k ≤ 8) : MdRw (.prt "in" [.nme x, .n k, .nme c]) := by
  refine ⟨⟨"xwx", r_in, by decide +kernel, by rw [t_xwx]; exact ⟨⟨rfl, hx⟩, .inl ⟨rfl, k1, k2⟩, ⟨rfl, hc⟩, trivial⟩, by simp, fun pt hp => ?_⟩, by simp [Rw.words, wordsP, Pt.words]⟩
  simp only [List.mem_cons, List.not_mem_nil, or_false] at hp
  rcases hp with rfl | rfl | rfl <;> simp [Pt.dep]
theorem md_cross {x c z : Str} {k : Nat} (hx : NmOk x) (hc : NmOk c) (k1 : k < 65536) (hz : NmOk z) : MdRw (.prt "cross" [.nme x, .nme c, .n k, .ref z]) := by
  refine ⟨⟨"xxkn", r_cross, by decide +kernel, by rw [t_xxkn]; exact ⟨⟨rfl, hx⟩, ⟨rfl, hc⟩, .inr ⟨rfl, k1⟩, ⟨rfl, hz⟩, trivial⟩, by simp, fun pt hp => ?_⟩, by simp [Rw.words, wordsP, Pt.words]⟩
  simp only [List.mem_cons, List.not_mem_nil, or_false] at hp
  rcases hp with rfl | rfl | rfl | rfl <;> simp [Pt.dep]
def ExD (n m : Nat) (e : Ex) : Prop := e.ok ∧ e.dep ≤ n ∧ e.ops ≤ m
theorem md_out {x c : Str} {k : Nat} {e : Ex} (hx : NmOk x) (k1 : 1 ≤ k) (k2 : k ≤ 8) (hc : NmOk c) (he : ExD 12 16 e) : MdRw (.prt "out" [.nme x, .n k, .nme c, .e e]) := by
  have hl := e.wlen.2
  have h3 := he.2.2
  refine ⟨⟨"xwxe", r_out, by decide +kernel, by rw [t_xwxe]; exact ⟨⟨rfl, hx⟩, .inl ⟨rfl, k1, k2⟩, ⟨rfl, hc⟩, ⟨rfl, he.1⟩, trivial⟩, by simp, fun pt hp => ?_⟩, by simp [Rw.words, wordsP, Pt.words]; omega⟩
  simp only [List.mem_cons, List.not_mem_nil, or_false] at hp
  rcases hp with rfl | rfl | rfl | rfl <;> first | exact he.2.1 | simp [Pt.dep]
theorem md_wire {x : Str} {k : Nat} {e : Ex} (hx : NmOk x) (k1 : 1 ≤ k) (k2 : k ≤ 8) (he : ExD 12 16 e) : MdRw (.prt "wire" [.nme x, .n k, .e e]) := by
  have hl := e.wlen.2
  have h3 := he.2.2
  refine ⟨⟨"xwe", r_wire, by decide +kernel, by rw [t_xwe]; exact ⟨⟨rfl, hx⟩, .inl ⟨rfl, k1, k2⟩, ⟨rfl, he.1⟩, trivial⟩, by simp, fun pt hp => ?_⟩, by simp [Rw.words, wordsP, Pt.words]; omega⟩
  simp only [List.mem_cons, List.not_mem_nil, or_false] at hp
  rcases hp with rfl | rfl | rfl <;> first | exact he.2.1 | simp [Pt.dep]
theorem md_box {x c : Str} {k j : Nat} {e : Ex} (hx : NmOk x) (k1 : 1 ≤ k) (k2 : k ≤ 8) (hc : NmOk c) (hj : j < 65536) (he : ExD 12 16 e) : MdRw (.prt "box" [.nme x, .n k, .nme c, .n j, .e e]) := by
  have hl := e.wlen.2
  have h3 := he.2.2
  refine ⟨⟨"xwxke", r_box, by decide +kernel, by rw [t_xwxke]; exact ⟨⟨rfl, hx⟩, .inl ⟨rfl, k1, k2⟩, ⟨rfl, hc⟩, .inr ⟨rfl, hj⟩, ⟨rfl, he.1⟩, trivial⟩, by simp, fun pt hp => ?_⟩, by simp [Rw.words, wordsP, Pt.words]; omega⟩
  simp only [List.mem_cons, List.not_mem_nil, or_false] at hp
  rcases hp with rfl | rfl | rfl | rfl | rfl <;> first | exact he.2.1 | simp [Pt.dep]
theorem es_wlen : ∀ {es : List Ex}, (∀ e ∈ es, ExD 3 4 e) → (wordsP (es.map Pt.e)).length ≤ 31 * es.length
  | [], _ => by simp [wordsP]
  | e :: es, h => by
    rw [List.map_cons, wordsP_cons, List.length_append, List.length_cons]
    have h1 := es_wlen (es := es) fun x hx => h x (List.mem_cons_of_mem _ hx)
    have h2 := e.wlen.2
    have h3 := (h e List.mem_cons_self).2.2
    have h4 : (Pt.e e).words.length = e.words.length := rfl
    omega
theorem md_use {x c : Str} {hs : List Str} {es : List Ex} (hx : NmOk x) (hc : NmOk c) (hh : ∀ z ∈ hs, NmOk z) (h4 : hs.length ≤ 4) (h6 : es.length ≤ 6) (he : ∀ e ∈ es, ExD 3 4 e) : MdRw (.use x c hs es) := by
  refine ⟨⟨hx, hc, hh, h4, h6, fun e hm => ⟨(he e hm).1, by have := (he e hm).2.1; omega⟩⟩, ?_⟩
  have := es_wlen he
  simp only [Rw.words, useW, List.length_cons, List.length_append]
  omega
theorem names_of : ∀ ys : List D, (∀ y ∈ ys, ∃ z : Str, NmOk z ∧ y = .str z) → ∃ zs : List Str, ys = zs.map PyData.str ∧ ∀ z ∈ zs, NmOk z
  | [], _ => ⟨[], rfl, fun z hz => by cases hz⟩
  | y :: r, h => by
    obtain ⟨c, hc, rfl⟩ := h y List.mem_cons_self
    obtain ⟨cs, e, h1⟩ := names_of r fun z hz => h z (List.mem_cons_of_mem _ hz)
    refine ⟨c :: cs, by rw [e]; rfl, fun z hz => ?_⟩
    rcases List.mem_cons.mp hz with rfl | hz
    · exact hc
    · exact h1 z hz
theorem list_of {α : Type} {A : α → Prop} {g : α → D} : ∀ ys : List D, (∀ y ∈ ys, ∃ z : α, A z ∧ y = g z) → ∃ zs : List α, ys = zs.map g ∧ ∀ z ∈ zs, A z
  | [], _ => ⟨[], rfl, fun z hz => by cases hz⟩
  | y :: r, h => by
    obtain ⟨c, hc, rfl⟩ := h y List.mem_cons_self
    obtain ⟨cs, e, h1⟩ := list_of r fun z hz => h z (List.mem_cons_of_mem _ hz)
    refine ⟨c :: cs, by rw [e]; rfl, fun z hz => ?_⟩
    rcases List.mem_cons.mp hz with rfl | hz
    · exact hc
    · exact h1 z hz
section
variable {P : Program} {w : World} {K : PySem.W.Frag} {mg : Str → Option Value} {base : Heap} {C : Addr} {f : Addr} {fd : FuncData}
theorem ok_row (T : Tb K w mg C) (c_law_draw : Cal P w K mg base "_law_draw" 1 ["_law_deck_here", "_law_sides"] 1 spDraw) (c_law_number : Cal P w K mg base "_law_number" 2 ["_law_deck_here", "_law_kind"] 10 spNumb) (c_law_name : Cal P w K mg base "_law_name" 3 ["_law_deck_here"] 20 spName)
    (c_law_expression : CalM P w K mg base "_law_expression" 16 ["_law_deck_here", "_law_left", "_law_room"] (eC 12) (spExpr 12))
    (F : Fun K "_law_row" "_law_row" s_law_row f fd) : FnG P w K mg base CX0 17 f fd ["_law_deck_here", "_law_deep"] (spD K rC spRow) := by
  have nd := sc_law_row.nd
  refine okDG (k := 16) F sc_law_row (fun as Q h => by obtain ⟨d, rfl, _⟩ := h; rfl) (fun cdv A fs s H E hr => have hu := hr.rm.units; have hgd := hr.gd; (gss_cons (gs_set (i := 2) nd rfl (.inl rfl) (ge_cal c_law_draw (hr.mono (by first | decide | omega)) (by rfl) (ga_hd 0 (ga_cons ge_int ga_nil))))
      (gss_cons (gs_par rfl nd (i := 3) (j := 4) rfl rfl (by decide) rfl rfl (ga_cons (ge_cal c_law_name (hr.mono (by first | decide | omega)) (by rfl) (ga_hd 0 ga_nil)) (ga_cons (ge_cal c_law_name (hr.mono (by first | decide | omega)) (by rfl) (ga_hd 0 ga_nil)) ga_nil)) (by rfl))
      (gss_cons (gs_par rfl nd (i := 5) (j := 6) rfl rfl (by decide) rfl rfl (ga_cons (ge_cal c_law_number (hr.mono (by first | decide | omega)) (by rfl) (ga_hd 0 (ga_cons ge_str ga_nil))) (ga_cons (ge_cal c_law_number (hr.mono (by first | decide | omega)) (by rfl) (ga_hd 0 (ga_cons ge_str ga_nil))) ga_nil)) (by rfl))
      (gss_cons (gs_if (gt_cmp (od_eq hu) (ge_var 2) ge_int (nomark _)) (gss_one (gs_ret (ge_tup (ga_cons ge_str (ga_cons (ge_var 3) ga_nil))))) gss_nil)
      (gss_cons (gs_if (gt_cmp (od_eq hu) (ge_var 2) ge_int (nomark _)) (gss_one (gs_ret (ge_tup (ga_cons ge_str (ga_cons (ge_var 3) (ga_cons (ge_var 5) (ga_cons (ge_var 4) ga_nil))))))) gss_nil)
      (gss_cons (gs_if (gt_cmp (od_eq hu) (ge_var 2) ge_int (nomark _)) (gss_one (gs_ret (ge_tup (ga_cons ge_str (ga_cons (ge_var 3) (ga_cons (ge_var 4) (ga_cons (ge_var 6) (ga_cons (ge_tup (ga_cons ge_str (ga_cons (ge_cal c_law_name (hr.mono (by first | decide | omega)) (by rfl) (ga_hd 0 ga_nil)) ga_nil))) ga_nil)))))))) gss_nil)
      (gss_cons (gs_if (gt_cmp od_lt (ge_var 2) ge_int (nomark _)) (gss_cons (gs_set (i := 7) nd rfl (.inl rfl) (ge_callTy cd_tuple (by rfl) T.n_tuple (by decide +kernel) (ga_cons (ge_pub (gf_lc 100 rfl nd (gi_range1 (by rfl) T.n_range (ga_cons (ge_cal c_law_draw (hr.mono (by first | decide | omega)) (by rfl) (ga_hd 0 (ga_cons ge_int ga_nil))) ga_nil)) (blkOk_by (own := [("_law_k", 9)]) (N := N_law_row) (sc := defScope s_law_row) (by decide +kernel)) (fun _ _ _ _ _ => (gg_name (i := 9) (vs := (List.map (·.2) ([("_law_k", 9)] : List (Str × Nat)))) nd rfl (.inl rfl) (by decide))) (fun _ _ _ _ _ => gts_nil) (fun _ _ _ _ _ => (ge_cal c_law_name (hr.mono (by first | decide | omega)) (by rfl) (ga_hd 0 ga_nil))))) ga_nil)))
      (gss_one (gs_ret (ge_tup (ga_cons ge_str (ga_cons (ge_var 3) (ga_cons (ge_var 4) (ga_cons (ge_var 7) (ga_cons (ge_callTy cd_tuple (by rfl) T.n_tuple (by decide +kernel) (ga_cons (ge_pub (gf_lc (7 * eC 12) rfl nd (gi_range1 (by rfl) T.n_range (ga_cons (ge_cal c_law_draw (hr.mono (by first | decide | omega)) (by rfl) (ga_hd 0 (ga_cons ge_int ga_nil))) ga_nil)) (blkOk_by (own := [("_law_k", 9)]) (N := N_law_row) (sc := defScope s_law_row) (by decide +kernel)) (fun _ _ _ _ _ => (gg_name (i := 9) (vs := (List.map (·.2) ([("_law_k", 9)] : List (Str × Nat)))) nd rfl (.inl rfl) (by decide))) (fun _ _ _ _ _ => gts_nil) (fun _ _ _ _ _ => (ge_calF c_law_expression (hr.mono (by first | decide | omega)) (by rfl) (gaf_hd 0 (gaf_cons ge_int (gaf_last (gf_lst (ga_cons ge_int ga_nil))))))))) ga_nil)) ga_nil))))))))) gss_nil)
      (gss_cons (gs_set (i := 8) nd rfl (.inl rfl) (ge_calF c_law_expression (hr.mono (by first | decide | omega)) (by rfl) (gaf_hd 0 (gaf_cons (ge_var 1) (gaf_last (gf_lst (ga_cons ge_int ga_nil)))))))
      (gss_one (gs_ret (ge_ix od_ix (ge_lst (ga_cons (ge_tup (ga_cons ge_str (ga_cons (ge_var 3) (ga_cons (ge_var 5) (ga_cons (ge_var 4) (ga_cons (ge_var 8) ga_nil)))))) (ga_cons (ge_tup (ga_cons ge_str (ga_cons (ge_var 3) (ga_cons (ge_var 5) (ga_cons (ge_var 8) ga_nil))))) (ga_cons (ge_tup (ga_cons ge_str (ga_cons (ge_var 3) (ga_cons (ge_var 5) (ga_cons (ge_var 4) (ga_cons (ge_var 6) (ga_cons (ge_var 8) ga_nil))))))) ga_nil)))) (ge_op od_sub (ge_var 2) ge_int) (fun _ _ => rfl))))))))))))) (by unfold rC; omega) (fun as Q h => ?_)
  obtain ⟨deep, rfl, d1, d2, hQ⟩ := h
  have big := big_size
  refine ⟨8, rfl, by decide, by decide, fun way w0 w1 => ⟨rfl, fun x hx => ⟨rfl, fun c hc => ?_⟩⟩⟩
  refine ⟨"w", rfl, fun _ k k1 k2 => ?_, fun z => absurd rfl z⟩
  refine ⟨"k", rfl, fun z => absurd z (by decide +kernel), fun _ j hj => ?_⟩
  refine dec_ite (fun _ => ?_) fun n0 => ?_
  · exact ⟨(show (2 : Nat) ≤ sizeLine by decide), hQ _ (md_clock hx)⟩
  refine dec_ite (fun _ => ?_) fun n1 => ?_
  · exact ⟨(show (4 : Nat) ≤ sizeLine by decide), hQ _ (md_in hx hc k1 k2)⟩
  refine dec_ite (fun _ => ?_) fun n2 => ?_
  · exact ⟨rfl, fun z hz => ⟨(show (2 : Nat) ≤ sizeLine by decide), (show (5 : Nat) ≤ sizeLine by decide), hQ _ (md_cross hx hc hj hz)⟩⟩
  refine dec_ite (fun _ => ?_) fun n3 => ?_
  · refine ⟨5, rfl, by decide, by decide, fun n n0 n1 => ⟨by omega, by omega, ?_, fun i hi w c => ?_, ?_⟩⟩
    · rw [rangeD_len]
      omega
    · have : i = 9 := List.mem_singleton.mp hi
      subst this
      intro hz
      cases hz
    refine lcl_any (fun y => ∃ z : Str, NmOk z ∧ y = .str z) _ _ (fun y hy kk hk => ?_) ?_ fun ys l1 l2 => ?_
    · exact ⟨rfl, rfl, fun z hz => ⟨rfl, hk _ ⟨z, hz, rfl⟩⟩⟩
    · rw [rangeD_len, List.length_nil]
      omega
    rw [rangeD_len] at l1
    obtain ⟨hs, rfl, hh⟩ := names_of ys l2
    rw [List.length_map] at l1
    rw [List.nil_append]
    refine ⟨7, rfl, by decide, by decide, fun m m0 m1 => ⟨by omega, by omega, ?_, fun i hi w c => ?_, ?_⟩⟩
    · rw [rangeD_len]
      exact Nat.mul_le_mul (by omega) (by omega)
    · have : i = 9 := List.mem_singleton.mp hi
      subst this
      intro hz
      cases hz
    refine lcl_any (fun y => ∃ e : Ex, ExD 3 4 e ∧ y = e.toD) _ _ (fun y hy kk hk => ?_) ?_ fun ys e1 e2 => ?_
    · refine ⟨rfl, (show (1 : Nat) ≤ sizeLine by decide), 3, 4, rfl, by decide, by decide, by decide, fun e r' h1 h2 h3 => ⟨rfl, hk _ ⟨e, ⟨h1, h2, ?_⟩, rfl⟩⟩⟩
      have : (4 : Int).toNat = 4 := rfl
      omega
    · rw [rangeD_len, List.length_nil]
      omega
    rw [rangeD_len] at e1
    obtain ⟨es, rfl, hh2⟩ := list_of ys e2
    rw [List.length_map] at e1
    rw [List.nil_append]
    exact ⟨(show (5 : Nat) ≤ sizeLine by decide), hQ _ (md_use hx hc hh (by omega) (by omega) hh2)⟩
  · refine ⟨(show (1 : Nat) ≤ sizeLine by decide), deep, 16, rfl, d1, d2, by omega, fun e r' h1 h2 h3 => ?_⟩
    have he : ExD 12 16 e := ⟨h1, by omega, by have : (16 : Int).toNat = 16 := rfl; omega⟩
    refine ⟨(show (5 : Nat) ≤ sizeLine by decide), (show (4 : Nat) ≤ sizeLine by decide), (show (6 : Nat) ≤ sizeLine by decide), (show (3 : Nat) ≤ sizeLine by decide), ?_⟩
    have hw : way = 5 ∨ way = 6 ∨ way = 7 := by omega
    rcases hw with rfl | rfl | rfl
    · exact ⟨_, rfl, hQ _ (md_out hx k1 k2 hc he)⟩
    · exact ⟨_, rfl, hQ _ (md_wire hx k1 k2 he)⟩
    · exact ⟨_, rfl, hQ _ (md_box hx k1 k2 hc hj he)⟩
theorem ok_module (T : Tb K w mg C) (c_law_draw : Cal P w K mg base "_law_draw" 1 ["_law_deck_here", "_law_sides"] 1 spDraw) (c_law_row : Cal P w K mg base "_law_row" 17 ["_law_deck_here", "_law_deep"] rC spRow)
    (F : Fun K "_law_module" "_law_module" s_law_module f fd) : FnG P w K mg base CX0 18 f fd ["_law_deck_here", "_law_most", "_law_deep"] (spD K (14 * rC + 10) spModule) := by
  have nd := sc_law_module.nd
  refine okDG (k := 17) F sc_law_module (fun as Q h => by obtain ⟨d, rfl, _⟩ := h; rfl) (fun cdv A fs s H E hr => have hu := hr.rm.units; have hgd := hr.gd; (gss_one (gs_ret (ge_pub (gf_lc (13 * rC) rfl nd (gi_range1 (by rfl) T.n_range (ga_cons (ge_cal c_law_draw (hr.mono (by first | decide | omega)) (by rfl) (ga_hd 0 (ga_cons (ge_op od_add (ge_var 1) ge_int) ga_nil))) ga_nil)) (blkOk_by (own := [("_law_k", 3)]) (N := N_law_module) (sc := defScope s_law_module) (by decide +kernel)) (fun _ _ _ _ _ => (gg_name (i := 3) (vs := (List.map (·.2) ([("_law_k", 3)] : List (Str × Nat)))) nd rfl (.inl rfl) (by decide))) (fun _ _ _ _ _ => gts_nil) (fun _ _ _ _ _ => (ge_cal c_law_row (hr.mono (by first | decide | omega)) (by rfl) (ga_hd 0 (ga_cons (ge_var 2) ga_nil))))))))) (by omega) (fun as Q h => ?_)
  obtain ⟨deep, rfl, d1, d2, hQ⟩ := h
  have big := big_size
  refine ⟨13, rfl, by decide, by decide, fun n n0 n1 => ⟨by omega, by omega, ?_, fun i hi w c => ?_, ?_⟩⟩
  · rw [rangeD_len]
    exact Nat.mul_le_mul (by omega) (by omega)
  · have : i = 3 := List.mem_singleton.mp hi
    subst this
    intro hz
    cases hz
  refine lcl_any (fun y => ∃ r : Rw, MdRw r ∧ y = r.toD) _ _ (fun y hy kk hk => ?_) ?_ fun ys e1 e2 => ?_
  · exact ⟨rfl, deep, rfl, d1, d2, fun r hr => ⟨rfl, hk _ ⟨r, hr, rfl⟩⟩⟩
  · rw [rangeD_len, List.length_nil]
    omega
  rw [rangeD_len] at e1
  obtain ⟨rows, rfl, hh2⟩ := list_of ys e2
  rw [List.length_map] at e1
  rw [List.nil_append]
  exact hQ rows (by omega) hh2
end
end L05
namespace L05
open PySem PySem.Spec PyProof.Rows L2 DL
/-! ### what is laid out -/
def strsL (ws : List Str) : List D := ws.map PyData.str
def spLaid (d : Nat) : List EV → (D → Prop) → Prop := fun as P => ∃ (e : Ex) (r p : Nat), as = [.d e.toD, .d (.int (r : Int)), .d (.int (p : Int))] ∧ e.ok ∧ e.dep ≤ d ∧ e.words.length ≤ 300 ∧ P (.tuple [.list (strsL e.words), e.tree r p])
def spRowOut : List EV → (D → Prop) → Prop := fun as P => ∃ (rw : Rw) (r : Nat), as = [.d rw.toD, .d (.int (r : Int))] ∧ MdRw rw ∧ P (.tuple [.list (strsL rw.words), rw.tree r])
def spBoth : List EV → (D → Prop) → Prop := fun as P => ∃ rows : List Rw, as = [.d (.list (rows.map Rw.toD))] ∧ RowsOk rows ∧ P (.tuple [.str (textOf rows), .tuple (treesFrom 0 rows)])
theorem word_name (e : Ex) (h : e.isNm = false) : e.word ≠ "name" := by
  cases e with
  | two o a b =>
    have hb : ∀ o : _root_.Fin 7, twoS o ≠ "name" := by decide +kernel
    exact hb o
  | nm t => cases h
  | num _ _ => exact (by decide +kernel : ("num" : Str) ≠ "name")
  | not _ => exact (by decide +kernel : ("not" : Str) ≠ "name")
  | pick _ _ _ => exact (by decide +kernel : ("pick" : Str) ≠ "name")
  | cut _ _ => exact (by decide +kernel : ("cut" : Str) ≠ "name")
  | bit _ _ => exact (by decide +kernel : ("bit" : Str) ≠ "name")
theorem ex_tup (e : Ex) : ∃ xs, e.toD = .tuple xs := by cases e <;> exact ⟨_, rfl⟩
theorem log_k {k : Nat} (h : k < 2 ^ 64) : ((k : Int)).natAbs.log2 < 1920 := by
  rw [Int.natAbs_natCast]
  by_cases hk : k = 0
  · subst hk
    decide
  · exact Nat.lt_of_lt_of_le ((Nat.log2_lt hk).mpr h) (by decide)
def PtG : Pt → Prop
  | .n k => k < 65536
  | .e x => x.ok
  | .nme z => NmOk z
  | .ref z => NmOk z
theorem ptg_of {c : Nat} {p : Pt} (h : KOk c p) : PtG p := by
  cases p with
  | n k =>
    rcases h with ⟨_, _, h⟩ | ⟨_, h⟩
    · show k < 65536
      omega
    · exact h
  | e x => exact h.2
  | nme z => exact h.2
  | ref z => exact h.2
theorem ptg_all : ∀ {cs : List Nat} {ps : List Pt}, KsOk cs ps → ∀ p ∈ ps, PtG p
  | [], [], _, p, hp => by cases hp
  | c :: cs, q :: ps, h, p, hp => by
    rcases List.mem_cons.mp hp with rfl | hp
    · exact ptg_of h.1
    · exact ptg_all h.2 p hp
  | [], _ :: _, h, _, _ => h.elim
  | _ :: _, [], h, _, _ => h.elim
/-- as an expression, where it is a tuple -/
def Pt.ex : Pt → Option Ex
  | .e x => some x
  | .ref z => some (.nm z)
  | _ => none
theorem pt_ex {pt : Pt} {x : Ex} (h : pt.ex = some x) : pt.toD = x.toD ∧ pt.words = x.words ∧ ∀ r p, pt.tree r p = x.tree r p := by
  cases pt <;> cases h <;> exact ⟨rfl, rfl, fun _ _ => rfl⟩
theorem pt_isi {pt : Pt} : isiD "tuple" pt.toD = pt.ex.isSome := by
  cases pt with
  | e x =>
    obtain ⟨xs, h⟩ := ex_tup x
    show isiD "tuple" x.toD = true
    rw [h]
    rfl
  | n k => rfl
  | nme z => rfl
  | ref z => rfl
theorem pt_no {pt : Pt} (h : pt.ex = none) (hg : PtG pt) : ∃ z : Str, pt.words = [z] ∧ (∀ r p, pt.tree r p = pt.toD) ∧ ∀ Pc : D → Prop, Pc (.str z) → dStrX [pt.toD] Pc := by
  cases pt with
  | e x => cases h
  | ref z => cases h
  | n k => exact ⟨nT k, rfl, fun _ _ => rfl, fun Pc hP => ⟨log_k (Nat.lt_of_lt_of_le hg (by decide)), hP⟩⟩
  | nme z => exact ⟨z, rfl, fun _ _ => rfl, fun Pc hP => hP⟩
theorem take_snoc {ps : List Pt} {i : Nat} {pt : Pt} (h : ps[i]? = some pt) : ps.take (i + 1) = ps.take i ++ [pt] := by
  obtain ⟨hl, e⟩ := List.getElem?_eq_some_iff.mp h
  rw [List.take_succ_eq_append_getElem hl, e]
theorem take_wl {ps : List Pt} {i : Nat} {pt : Pt} (h : ps[i]? = some pt) : (wordsP (ps.take i)).length + pt.words.length ≤ (wordsP ps).length := by
  obtain ⟨hl, e⟩ := List.getElem?_eq_some_iff.mp h
  have e2 : ps = ps.take i ++ pt :: ps.drop (i + 1) := by
    rw [← e, ← List.drop_eq_getElem_cons hl, List.take_append_drop]
  have e3 : (wordsP ps).length = (wordsP (ps.take i ++ pt :: ps.drop (i + 1))).length := by rw [← e2]
  rw [e3]
  unfold wordsP
  rw [List.flatMap_append, List.flatMap_cons, List.length_append, List.length_append]
  omega
theorem parts_ref (e : Ex) (z : Str) : Pt.ref z ∉ e.parts := by cases e <;> simp [Ex.parts]
theorem strs_len (ws : List Str) : (strsL ws).length = ws.length := List.length_map ..
theorem strs_app (a b : List Str) : strsL a ++ strsL b = strsL (a ++ b) := (List.map_append ..).symm
section
variable {P : Program} {w : World} {K : PySem.W.Frag} {mg : Str → Option Value} {base : Heap} {C : Addr} {f : Addr} {fd : FuncData}
theorem ok_laid_out {d : Nat} (T : Tb K w mg C) (c_law_laid_out : Cal P w K mg base "_law_laid_out" (d + 1) ["_law_part", "_law_row_here", "_law_at"] 0 (spLaid d))
    (F : Fun K "_law_laid_out" "_law_laid_out" s_law_laid_out f fd) : FnG P w K mg base CX0 (d + 2) f fd ["_law_part", "_law_row_here", "_law_at"] (spD K 0 (spLaid (d + 1))) := by
  have nd := sc_law_laid_out.nd
  refine okDG (k := d + 1) F sc_law_laid_out (fun as Q h => by obtain ⟨e, r, p, rfl, _⟩ := h; rfl) (fun cdv A fs s H E hr => have hu := hr.rm.units; have hgd := hr.gd; (gss_cons (gs_if (gt_cmp (od_eq hu) (ge_ix od_ix (ge_var 0) ge_int (fun _ _ => rfl)) ge_str (nomark _)) (gss_one (gs_ret (ge_tup (ga_cons (ge_lst (ga_cons (ge_ix od_ix (ge_var 0) ge_int (fun _ _ => rfl)) ga_nil)) (ga_cons (ge_tup (ga_cons ge_str (ga_cons (ge_tup (ga_cons (ge_var 1) (ga_cons (ge_var 2) ga_nil))) (ga_cons (ge_ix od_ix (ge_var 0) ge_int (fun _ _ => rfl)) ga_nil)))) ga_nil))))) gss_nil)
      (gss_cons (gs_par rfl nd (i := 3) (j := 4) rfl rfl (by decide) rfl rfl (ga_cons (ge_lst (ga_cons (ge_ix od_ix (ge_var 0) ge_int (fun _ _ => rfl)) ga_nil)) (ga_cons (ge_lst (ga_cons (ge_ix od_ix (ge_var 0) ge_int (fun _ _ => rfl)) (ga_cons (ge_tup (ga_cons (ge_var 1) (ga_cons (ge_var 2) ga_nil))) ga_nil))) ga_nil)) (by rfl))
      (gss_cons (gs_forC 0 PassesOwn.never rfl (gi_tup (ge_slice sd_sl (ge_var 0) (go_some ge_int) go_none)) (gg_name (i := 5) (vs := [5]) nd rfl (.inl rfl) (by decide)) (gss_cons (gs_asg (ge_if (gt_val (ge_isi kit_tuple (by rfl) T.n_isinstance (by rfl) T.n_tuple (by decide +kernel) (ge_var 5))) (ge_cal c_law_laid_out (hr.mono (by first | decide | omega)) (by rfl) (ga_cons (ge_var 5) (ga_cons (ge_var 1) (ga_cons (ge_op od_add (ge_var 2) (ge_callB cd_len (by rfl) T.n_len PySem.boot_len (ga_cons (ge_var 3) ga_nil))) ga_nil)))) (ge_tup (ga_cons (ge_lst (ga_cons (ge_callTy cd_strX (by rfl) T.n_str (by decide +kernel) (ga_cons (ge_var 5) ga_nil)) ga_nil)) (ga_cons (ge_var 5) ga_nil)))) (gg_tup (n := 2) rfl (ggs_cons (i := 6) (vs := [6, 7]) nd rfl (.inl rfl) (by decide) (ggs_cons (i := 7) (vs := [6, 7]) nd rfl (.inl rfl) (by decide) ggs_nil))))
      (gss_one (gs_par rfl nd (i := 3) (j := 4) rfl rfl (by decide) rfl rfl (ga_cons (ge_op od_add (ge_var 3) (ge_var 6)) (ga_cons (ge_op od_add (ge_var 4) (ge_lst (ga_cons (ge_var 7) ga_nil))) ga_nil)) (by rfl)))))
      (gss_one (gs_ret (ge_tup (ga_cons (ge_var 3) (ga_cons (ge_callTy cd_tuple (by rfl) T.n_tuple (by decide +kernel) (ga_cons (ge_var 4) ga_nil)) ga_nil))))))))) (by decide) (fun as Q h => ?_)
  obtain ⟨e, r, p, rfl, ho, hd, hl, hQ⟩ := h
  have big := big_size
  cases hn : e.isNm with
  | true =>
    cases e with
    | nm t =>
      exact ⟨_, rfl, _, rfl, (show (1 : Nat) ≤ sizeLine by decide), (show (2 : Nat) ≤ sizeLine by decide), _, rfl, (show (3 : Nat) ≤ sizeLine by decide), (show (2 : Nat) ≤ sizeLine by decide), hQ⟩
    | _ => cases hn
  | false =>
    rw [Ex.toD_eq hn]
    obtain ⟨shp, _, hks, hdp⟩ := ex_shape hn ho
    have hg := ptg_all hks
    have hwl : (wordsP e.parts).length + 1 = e.words.length := by rw [Ex.words_eq hn]; rfl
    have hpl : e.parts.length ≤ 3 := by cases e <;> simp [Ex.parts]
    refine ⟨_, at0 _ _, ?_⟩
    show match decide (e.word = "name") with | true => _ | false => _
    rw [decide_eq_false (word_name e hn)]
    refine ⟨_, at0 _ _, (show (1 : Nat) ≤ sizeLine by decide), _, at0 _ _, (show (2 : Nat) ≤ sizeLine by decide), (show (2 : Nat) ≤ sizeLine by decide), ?_⟩
    show _ ≤ _ ∧ sForL _ _ (cutD (PyData.str e.word :: e.parts.map Pt.toD) (some 1) none) _ _
    rw [cut_1]
    refine ⟨by rw [Nat.mul_comm]; exact Nat.le_of_eq (Nat.zero_mul _), ?_⟩
    refine sfor_by (fun i env => ∃ k5 k6 k7, env = [.d (.tuple (.str e.word :: e.parts.map Pt.toD)), .d (.int (r : Int)), .d (.int (p : Int)), .d (.list (strsL (e.word :: wordsP (e.parts.take i)))), .d (.list (.str e.word :: placeD r p :: treeP r (p + 1) (e.parts.take i))), k5, k6, k7]) ⟨_, _, _, rfl⟩ (fun i x env N hx hI hN => ?_) fun env hI => ?_
    · obtain ⟨k5, k6, k7, rfl⟩ := hI
      rw [List.getElem?_map, Option.map_eq_some_iff] at hx
      obtain ⟨pt, hpt, rfl⟩ := hx
      have hm : pt ∈ e.parts := List.mem_of_getElem? hpt
      have hil := (List.getElem?_eq_some_iff.mp hpt).1
      have hwt := take_wl hpt
      have hw1 : strsL (e.word :: wordsP (e.parts.take i)) ++ strsL pt.words = strsL (e.word :: wordsP (e.parts.take (i + 1))) := by
        rw [take_snoc hpt, wordsP_snoc, strs_app]
        rfl
      have ht1 : (PyData.str e.word :: placeD r p :: treeP r (p + 1) (e.parts.take i)) ++ [pt.tree r (p + 1 + (wordsP (e.parts.take i)).length)] = PyData.str e.word :: placeD r p :: treeP r (p + 1) (e.parts.take (i + 1)) := by
        rw [take_snoc hpt, treeP_snoc]
        rfl
      have l1 : (strsL (e.word :: wordsP (e.parts.take i))).length = (wordsP (e.parts.take i)).length + 1 := by rw [strs_len, List.length_cons]
      have l2 : (PyData.str e.word :: placeD r p :: treeP r (p + 1) (e.parts.take i)).length ≤ 10 := by
        rw [List.length_cons, List.length_cons, treeP_len, List.length_take]
        omega
      have fin : ∀ a b, N [.d (.tuple (.str e.word :: e.parts.map Pt.toD)), .d (.int (r : Int)), .d (.int (p : Int)), .d (.list (strsL (e.word :: wordsP (e.parts.take i)) ++ strsL pt.words)), .d (.list ((PyData.str e.word :: placeD r p :: treeP r (p + 1) (e.parts.take i)) ++ [pt.tree r (p + 1 + (wordsP (e.parts.take i)).length)])), .d pt.toD, a, b] := fun a b => by
        rw [hw1, ht1]
        exact hN _ ⟨_, _, _, rfl⟩
      refine mif_by pt.ex.isSome (fun Pc h => ?_) (fun hs => ?_) (fun hs => ?_)
      · show Pc (isiD "tuple" pt.toD) _
        rw [pt_isi]
        exact h
      · obtain ⟨x, hx⟩ := Option.isSome_iff_exists.mp hs
        obtain ⟨x1, x2, x3⟩ := pt_ex hx
        have hxo : x.ok ∧ x.dep ≤ d := by
          have h1 := hg pt hm
          have h2 := hdp pt hm
          cases pt with
          | e y =>
            cases hx
            have h2 : x.dep + 1 ≤ e.dep := h2
            exact ⟨h1, by omega⟩
          | ref z =>
            exact absurd hm (parts_ref e z)
          | n k => cases hx
          | nme z => cases hx
        rw [x2] at fin hwt
        refine ⟨x, r, p + 1 + (wordsP (e.parts.take i)).length, ?_, hxo.1, hxo.2, by omega, rfl, rfl, ?_, (show (1 : Nat) ≤ sizeLine by decide), ?_, ?_⟩
        · rw [x1]
          show [EV.d x.toD, .d (.int (r : Int)), .d (.int ((p : Int) + (((strsL (e.word :: wordsP (e.parts.take i))).length : Nat) : Int)))] = _
          rw [l1]
          have : (p : Int) + (((wordsP (e.parts.take i)).length + 1 : Nat) : Int) = ((p + 1 + (wordsP (e.parts.take i)).length : Nat) : Int) := by omega
          rw [this]
        · rw [l1, strs_len]
          omega
        · show _ + 1 ≤ sizeLine
          omega
        · rw [← x3]
          exact fin _ _
      · have hx : pt.ex = none := by
          cases h : pt.ex with
          | none => rfl
          | some x => rw [h] at hs; cases hs
        obtain ⟨z, z1, z2, z3⟩ := pt_no hx (hg pt hm)
        rw [z1, z2] at fin
        rw [z1] at hwt
        refine z3 _ ⟨(show (1 : Nat) ≤ sizeLine by decide), (show (2 : Nat) ≤ sizeLine by decide), rfl, rfl, ?_, (show (1 : Nat) ≤ sizeLine by decide), ?_, ?_⟩
        · rw [l1]
          show _ + 1 ≤ sizeLine
          omega
        · show _ + 1 ≤ sizeLine
          omega
        · exact fin _ _
    · obtain ⟨k5, k6, k7, rfl⟩ := hI
      rw [List.length_map, List.take_length]
      rw [Ex.words_eq hn, Ex.tree_eq hn] at hQ
      exact ⟨(show (2 : Nat) ≤ sizeLine by decide), hQ⟩
end
end L05
namespace L05
open PySem PySem.Spec PyProof.Rows L2 DL
theorem pt_ok {pt : Pt} {x : Ex} (h : pt.ex = some x) (hg : PtG pt) (hd : pt.dep ≤ 12) : x.ok ∧ x.dep ≤ 12 := by
  cases pt with
  | e y =>
    cases h
    exact ⟨hg, hd⟩
  | ref z =>
    cases h
    exact ⟨.inl hg, (show 1 ≤ 12 by decide)⟩
  | n k => cases h
  | nme z => cases h
theorem cut_4 (a b c d e : D) : cutD [a, b, c, d, e] none (some 4) = [a, b, c, d] := rfl
section
variable {P : Program} {w : World} {K : PySem.W.Frag} {mg : Str → Option Value} {base : Heap} {C : Addr} {f : Addr} {fd : FuncData}
theorem ok_row_out (T : Tb K w mg C) (c_law_laid_out : Cal P w K mg base "_law_laid_out" 13 ["_law_part", "_law_row_here", "_law_at"] 0 (spLaid 12))
    (F : Fun K "_law_row_out" "_law_row_out" s_law_row_out f fd) : FnG P w K mg base CX0 14 f fd ["_law_made", "_law_row_here"] (spD K 0 spRowOut) := by
  have nd := sc_law_row_out.nd
  refine okDG (k := 13) F sc_law_row_out (fun as Q h => by obtain ⟨e, r, rfl, _⟩ := h; rfl) (fun cdv A fs s H E hr => have hu := hr.rm.units; have hgd := hr.gd; (gss_cons (gs_if (gt_cmp (od_eq hu) (ge_ix od_ix (ge_var 0) ge_int (fun _ _ => rfl)) ge_str (nomark _)) (gss_cons (gs_par rfl nd (i := 2) (j := 3) rfl rfl (by decide) rfl rfl (ga_cons (ge_op od_add (ge_lst (ga_cons ge_str (ga_cons (ge_ix od_ix (ge_var 0) ge_int (fun _ _ => rfl)) (ga_cons (ge_ix od_ix (ge_var 0) ge_int (fun _ _ => rfl)) (ga_cons (ge_callTy cd_strX (by rfl) T.n_str (by decide +kernel) (ga_cons (ge_callB cd_len (by rfl) T.n_len PySem.boot_len (ga_cons (ge_ix od_ix (ge_var 0) ge_int (fun _ _ => rfl)) ga_nil)) ga_nil)) ga_nil))))) (ge_callTy cd_list (by rfl) T.n_list (by decide +kernel) (ga_cons (ge_ix od_ix (ge_var 0) ge_int (fun _ _ => rfl)) ga_nil))) (ga_cons (ge_lst ga_nil) ga_nil)) (by rfl))
      (gss_cons (gs_forC 0 PassesOwn.never rfl (gi_tup (ge_ix od_ix (ge_var 0) ge_int (fun _ _ => rfl))) (gg_name (i := 4) (vs := [4]) nd rfl (.inl rfl) (by decide)) (gss_cons (gs_asg (ge_cal c_law_laid_out (hr.mono (by first | decide | omega)) (by rfl) (ga_cons (ge_var 4) (ga_cons (ge_var 1) (ga_cons (ge_callB cd_len (by rfl) T.n_len PySem.boot_len (ga_cons (ge_var 2) ga_nil)) ga_nil)))) (gg_tup (n := 2) rfl (ggs_cons (i := 5) (vs := [5, 6]) nd rfl (.inl rfl) (by decide) (ggs_cons (i := 6) (vs := [5, 6]) nd rfl (.inl rfl) (by decide) ggs_nil))))
      (gss_one (gs_par rfl nd (i := 2) (j := 3) rfl rfl (by decide) rfl rfl (ga_cons (ge_op od_add (ge_var 2) (ge_var 5)) (ga_cons (ge_op od_add (ge_var 3) (ge_lst (ga_cons (ge_var 6) ga_nil))) ga_nil)) (by rfl)))))
      (gss_one (gs_ret (ge_tup (ga_cons (ge_var 2) (ga_cons (ge_op od_add (ge_slice sd_sl (ge_var 0) go_none (go_some ge_int)) (ge_tup (ga_cons (ge_callTy cd_tuple (by rfl) T.n_tuple (by decide +kernel) (ga_cons (ge_var 3) ga_nil)) ga_nil))) ga_nil))))))) gss_nil)
      (gss_cons (gs_par rfl nd (i := 2) (j := 3) rfl rfl (by decide) rfl rfl (ga_cons (ge_lst (ga_cons (ge_ix od_ix (ge_var 0) ge_int (fun _ _ => rfl)) ga_nil)) (ga_cons (ge_lst (ga_cons (ge_ix od_ix (ge_var 0) ge_int (fun _ _ => rfl)) ga_nil)) ga_nil)) (by rfl))
      (gss_cons (gs_forC 0 PassesOwn.never rfl (gi_tup (ge_slice sd_sl (ge_var 0) (go_some ge_int) go_none)) (gg_name (i := 4) (vs := [4]) nd rfl (.inl rfl) (by decide)) (gss_cons (gs_asg (ge_if (gt_val (ge_isi kit_tuple (by rfl) T.n_isinstance (by rfl) T.n_tuple (by decide +kernel) (ge_var 4))) (ge_cal c_law_laid_out (hr.mono (by first | decide | omega)) (by rfl) (ga_cons (ge_var 4) (ga_cons (ge_var 1) (ga_cons (ge_callB cd_len (by rfl) T.n_len PySem.boot_len (ga_cons (ge_var 2) ga_nil)) ga_nil)))) (ge_tup (ga_cons (ge_lst (ga_cons (ge_callTy cd_strX (by rfl) T.n_str (by decide +kernel) (ga_cons (ge_var 4) ga_nil)) ga_nil)) (ga_cons (ge_var 4) ga_nil)))) (gg_tup (n := 2) rfl (ggs_cons (i := 5) (vs := [5, 6]) nd rfl (.inl rfl) (by decide) (ggs_cons (i := 6) (vs := [5, 6]) nd rfl (.inl rfl) (by decide) ggs_nil))))
      (gss_one (gs_par rfl nd (i := 2) (j := 3) rfl rfl (by decide) rfl rfl (ga_cons (ge_op od_add (ge_var 2) (ge_var 5)) (ga_cons (ge_op od_add (ge_var 3) (ge_lst (ga_cons (ge_var 6) ga_nil))) ga_nil)) (by rfl)))))
      (gss_one (gs_ret (ge_tup (ga_cons (ge_var 2) (ga_cons (ge_callTy cd_tuple (by rfl) T.n_tuple (by decide +kernel) (ga_cons (ge_var 3) ga_nil)) ga_nil))))))))) (by decide) (fun as Q h => ?_)
  obtain ⟨rw0, r, rfl, ⟨ho, hl⟩, hQ⟩ := h
  have big := big_size
  cases rw0 with
  | prt wd ps =>
    obtain ⟨shp, _, hnu, hks, hpl, hdp⟩ := ho
    have hg := ptg_all hks
    have hwl : (wordsP ps).length + 1 ≤ 200 := hl
    refine ⟨_, at0 _ _, ?_⟩
    show match decide (wd = "use") with | true => _ | false => _
    rw [decide_eq_false hnu]
    refine ⟨_, at0 _ _, (show (1 : Nat) ≤ sizeLine by decide), _, at0 _ _, (show (1 : Nat) ≤ sizeLine by decide), ?_⟩
    show _ ≤ _ ∧ sForL _ _ (cutD (PyData.str wd :: ps.map Pt.toD) (some 1) none) _ _
    rw [cut_1]
    refine ⟨by rw [Nat.mul_comm]; exact Nat.le_of_eq (Nat.zero_mul _), ?_⟩
    refine sfor_by (fun i env => ∃ k5 k6 k7, env = [.d (.tuple (.str wd :: ps.map Pt.toD)), .d (.int (r : Int)), .d (.list (strsL (wd :: wordsP (ps.take i)))), .d (.list (.str wd :: treeP r 1 (ps.take i))), k5, k6, k7]) ⟨_, _, _, rfl⟩ (fun i x env N hx hI hN => ?_) fun env hI => ?_
    · obtain ⟨k5, k6, k7, rfl⟩ := hI
      rw [List.getElem?_map, Option.map_eq_some_iff] at hx
      obtain ⟨pt, hpt, rfl⟩ := hx
      have hm : pt ∈ ps := List.mem_of_getElem? hpt
      have hil := (List.getElem?_eq_some_iff.mp hpt).1
      have hwt := take_wl hpt
      have hw1 : strsL (wd :: wordsP (ps.take i)) ++ strsL pt.words = strsL (wd :: wordsP (ps.take (i + 1))) := by
        rw [take_snoc hpt, wordsP_snoc, strs_app]
        rfl
      have ht1 : (PyData.str wd :: treeP r 1 (ps.take i)) ++ [pt.tree r (1 + (wordsP (ps.take i)).length)] = PyData.str wd :: treeP r 1 (ps.take (i + 1)) := by
        rw [take_snoc hpt, treeP_snoc]
        rfl
      have l1 : (strsL (wd :: wordsP (ps.take i))).length = (wordsP (ps.take i)).length + 1 := by rw [strs_len, List.length_cons]
      have l2 : (PyData.str wd :: treeP r 1 (ps.take i)).length ≤ 10 := by
        rw [List.length_cons, treeP_len, List.length_take]
        omega
      have fin : ∀ a b, N [.d (.tuple (.str wd :: ps.map Pt.toD)), .d (.int (r : Int)), .d (.list (strsL (wd :: wordsP (ps.take i)) ++ strsL pt.words)), .d (.list ((PyData.str wd :: treeP r 1 (ps.take i)) ++ [pt.tree r (1 + (wordsP (ps.take i)).length)])), .d pt.toD, a, b] := fun a b => by
        rw [hw1, ht1]
        exact hN _ ⟨_, _, _, rfl⟩
      refine mif_by pt.ex.isSome (fun Pc h => ?_) (fun hs => ?_) (fun hs => ?_)
      · show Pc (isiD "tuple" pt.toD) _
        rw [pt_isi]
        exact h
      · obtain ⟨x, hx⟩ := Option.isSome_iff_exists.mp hs
        obtain ⟨x1, x2, x3⟩ := pt_ex hx
        have hxo := pt_ok hx (hg pt hm) (hdp pt hm)
        rw [x2] at fin hwt
        refine ⟨x, r, 1 + (wordsP (ps.take i)).length, ?_, hxo.1, hxo.2, by omega, rfl, rfl, ?_, (show (1 : Nat) ≤ sizeLine by decide), ?_, ?_⟩
        · rw [x1]
          show [EV.d x.toD, .d (.int (r : Int)), .d (.int (((strsL (wd :: wordsP (ps.take i))).length : Nat) : Int))] = _
          rw [l1, Nat.add_comm]
        · rw [l1, strs_len]
          omega
        · show _ + 1 ≤ sizeLine
          omega
        · rw [← x3]
          exact fin _ _
      · have hx : pt.ex = none := by
          cases h : pt.ex with
          | none => rfl
          | some x => rw [h] at hs; cases hs
        obtain ⟨z, z1, z2, z3⟩ := pt_no hx (hg pt hm)
        rw [z1, z2] at fin
        rw [z1] at hwt
        refine z3 _ ⟨(show (1 : Nat) ≤ sizeLine by decide), (show (2 : Nat) ≤ sizeLine by decide), rfl, rfl, ?_, (show (1 : Nat) ≤ sizeLine by decide), ?_, ?_⟩
        · rw [l1]
          show _ + 1 ≤ sizeLine
          omega
        · show _ + 1 ≤ sizeLine
          omega
        · exact fin _ _
    · obtain ⟨k5, k6, k7, rfl⟩ := hI
      rw [List.length_map, List.take_length]
      exact ⟨(show (2 : Nat) ≤ sizeLine by decide), hQ⟩
  | use x c hs es =>
    obtain ⟨hx, hc, hhs, h4, h6, hes⟩ := ho
    refine ⟨_, rfl, _, rfl, _, rfl, _, rfl, log_k (by rw [List.length_map]; omega), (show (4 : Nat) ≤ sizeLine by decide), _, rfl, ?_, (show (0 : Nat) ≤ sizeLine by decide), ?_⟩
    · show 4 + (hs.map PyData.str).length ≤ sizeLine
      rw [List.length_map]
      omega
    have hwl : 4 + hs.length + (wordsP (es.map Pt.e)).length ≤ 300 := by
      have := hl
      simp only [Rw.words, useW, List.length_cons, List.length_append] at this
      omega
    have ew : [PyData.str "use", .str x, .str c, .str (Str.ofString (toString (((hs.map PyData.str).length : Nat) : Int)))] ++ hs.map PyData.str = strsL ("use" :: x :: c :: nT hs.length :: hs) := by
      rw [List.length_map]
      rfl
    refine ⟨_, rfl, by rw [Nat.mul_comm]; exact Nat.le_of_eq (Nat.zero_mul _), ?_⟩
    show sForL _ _ _ _ [.d (Rw.use x c hs es).toD, .d (.int (r : Int)), .d (.list ([PyData.str "use", .str x, .str c, .str (Str.ofString (toString (((hs.map PyData.str).length : Nat) : Int)))] ++ hs.map PyData.str)), .d (.list []), .un, .un, .un]
    rw [ew]
    refine sfor_by (fun i env => ∃ k5 k6 k7, env = [.d (Rw.use x c hs es).toD, .d (.int (r : Int)), .d (.list (strsL ("use" :: x :: c :: nT hs.length :: (hs ++ wordsP ((es.map Pt.e).take i))))), .d (.list (treeP r (4 + hs.length) ((es.map Pt.e).take i))), k5, k6, k7]) ⟨.un, .un, .un, ?_⟩ (fun i y env N hy hI hN => ?_) fun env hI => ?_
    · rw [List.take_zero]
      show [_, _, EV.d (.list (strsL ("use" :: x :: c :: nT hs.length :: hs))), _, _, _, _] = [_, _, EV.d (.list (strsL ("use" :: x :: c :: nT hs.length :: (hs ++ [])))), _, _, _, _]
      rw [List.append_nil]
      rfl
    · obtain ⟨k5, k6, k7, rfl⟩ := hI
      rw [List.getElem?_map, Option.map_eq_some_iff] at hy
      obtain ⟨e, he, rfl⟩ := hy
      have hm : e ∈ es := List.mem_of_getElem? he
      have hpt : (es.map Pt.e)[i]? = some (.e e) := by rw [List.getElem?_map, he]; rfl
      have hil := (List.getElem?_eq_some_iff.mp he).1
      have hwt := take_wl hpt
      have hwt2 : (wordsP ((es.map Pt.e).take i)).length + e.words.length ≤ (wordsP (es.map Pt.e)).length := hwt
      have hw1 : strsL ("use" :: x :: c :: nT hs.length :: (hs ++ wordsP ((es.map Pt.e).take i))) ++ strsL e.words = strsL ("use" :: x :: c :: nT hs.length :: (hs ++ wordsP ((es.map Pt.e).take (i + 1)))) := by
        rw [take_snoc hpt, wordsP_snoc, strs_app, ← List.append_assoc hs]
        rfl
      have ht1 : treeP r (4 + hs.length) ((es.map Pt.e).take i) ++ [e.tree r (4 + hs.length + (wordsP ((es.map Pt.e).take i)).length)] = treeP r (4 + hs.length) ((es.map Pt.e).take (i + 1)) := by
        rw [take_snoc hpt, treeP_snoc]
        rfl
      have l1 : (strsL ("use" :: x :: c :: nT hs.length :: (hs ++ wordsP ((es.map Pt.e).take i)))).length = 4 + hs.length + (wordsP ((es.map Pt.e).take i)).length := by
        rw [strs_len]
        simp only [List.length_cons, List.length_append]
        omega
      have l2 : (treeP r (4 + hs.length) ((es.map Pt.e).take i)).length ≤ 10 := by
        rw [treeP_len, List.length_take, List.length_map]
        omega
      refine ⟨e, r, 4 + hs.length + (wordsP ((es.map Pt.e).take i)).length, ?_, (hes e hm).1, (hes e hm).2, by omega, rfl, rfl, ?_, (show (1 : Nat) ≤ sizeLine by decide), ?_, ?_⟩
      · show [EV.d e.toD, .d (.int (r : Int)), .d (.int (((strsL ("use" :: x :: c :: nT hs.length :: (hs ++ wordsP ((es.map Pt.e).take i)))).length : Nat) : Int))] = _
        rw [l1]
      · rw [l1, strs_len]
        omega
      · show _ + 1 ≤ sizeLine
        omega
      · rw [hw1, ht1]
        exact hN _ ⟨_, _, _, rfl⟩
    · obtain ⟨k5, k6, k7, rfl⟩ := hI
      have el : (es.map Ex.toD).length = (es.map Pt.e).length := by rw [List.length_map, List.length_map]
      rw [el, List.take_length]
      refine ⟨(show (1 : Nat) ≤ sizeLine by decide), ?_⟩
      exact ⟨(show (4 + 1 : Nat) ≤ sizeLine by decide), (show (2 : Nat) ≤ sizeLine by decide), hQ⟩
end
end L05
namespace L05
open PySem PySem.Spec PyProof.Rows L2 DL
def outD (k : Nat) (r : Rw) : D := .tuple [.list (strsL r.words), r.tree k]
def outs : Nat → List Rw → List D
  | _, [] => []
  | k, r :: rs => outD k r :: outs (k + 1) rs
theorem outs_len : ∀ (rows : List Rw) (k : Nat), (outs k rows).length = rows.length
  | [], _ => rfl
  | r :: rs, k => by rw [outs, List.length_cons, List.length_cons, outs_len rs]
theorem strs_back : ∀ ws : List Str, strsD (strsL ws) = some ws
  | [] => rfl
  | w :: ws => by
    show (strsD (strsL ws)).map (w :: ·) = _
    rw [strs_back ws]
    rfl
theorem sum_le {B : Nat} : ∀ {ws : List Str}, (∀ z ∈ ws, z.length ≤ B) → (ws.map (·.length)).sum ≤ ws.length * B
  | [], _ => by simp
  | w :: ws, h => by
    have h1 := h w List.mem_cons_self
    have h2 := sum_le (ws := ws) fun z hz => h z (List.mem_cons_of_mem _ hz)
    rw [List.map_cons, List.sum_cons, List.length_cons, Nat.add_mul, Nat.one_mul]
    omega
theorem rows_out {Pc : List D → Prop} : ∀ (rows : List Rw) (k : Nat) (acc : List D) (e0 e1 e4 e5 : EV), (∀ r ∈ rows, MdRw r) → acc.length + rows.length ≤ 100 → Pc (acc ++ outs k rows) →
    mLcL (gTp 2 (gsCons 2 (gsCons 3 gsNil))) mYes (mCall spRowOut (mCons (mVar 3) (mCons (mVar 2) mNil))) [2, 3] (pairsF k (rows.map Rw.toD)) acc [e0, e1, .un, .un, e4, e5] Pc
  | [], k, acc, e0, e1, e4, e5, _, _, hP => by
    have e : acc ++ outs k [] = acc := List.append_nil _
    rw [e] at hP
    exact hP
  | r :: rows, k, acc, e0, e1, e4, e5, ho, hl, hP => by
    rw [List.length_cons] at hl
    have big := big_size
    refine ⟨rfl, rfl, rfl, r, k, rfl, ho r List.mem_cons_self, rfl, by omega, ?_⟩
    refine rows_out rows (k + 1) (acc ++ [outD k r]) e0 e1 e4 e5 (fun q hq => ho q (List.mem_cons_of_mem _ hq)) (by rw [List.length_append, List.length_singleton]; omega) ?_
    rw [List.append_assoc, List.singleton_append]
    exact hP
theorem rows_heard {Pc : List D → Prop} : ∀ (rows : List Rw) (k : Nat) (acc : List D) (e0 e1 e2 e3 : EV), acc.length + rows.length ≤ 100 → Pc (acc ++ treesFrom k rows) →
    mLcL (gTp 2 (gsCons 4 (gsCons 5 gsNil))) mYes (mVar 5) [4, 5] (outs k rows) acc [e0, e1, e2, e3, .un, .un] Pc
  | [], k, acc, e0, e1, e2, e3, _, hP => by
    have e : acc ++ treesFrom k [] = acc := List.append_nil _
    rw [e] at hP
    exact hP
  | r :: rows, k, acc, e0, e1, e2, e3, hl, hP => by
    rw [List.length_cons] at hl
    have big := big_size
    refine ⟨rfl, rfl, rfl, rfl, by omega, ?_⟩
    refine rows_heard rows (k + 1) (acc ++ [r.tree k]) e0 e1 e2 e3 (by rw [List.length_append, List.length_singleton]; omega) ?_
    rw [List.append_assoc, List.singleton_append]
    exact hP
theorem join_step {env : DEnv} {i : Nat} {a : Str} {ws : List Str} {Pd : D → DEnv → Prop} (hi : env[i]? = some (.d (.list (strsL ws)))) (hs : (ws.map (·.length)).sum + ws.length * a.length ≤ 16777216) (h : Pd (.str (Txt.join a ws)) env) : mBMt "str" fJoin (mC (.str a)) (mCons (mVar i) mNil) env Pd := by
  refine ⟨rfl, ?_⟩
  unfold mCons mVar
  rw [hi]
  dsimp only [mNil, mDats, dats, Option.map, fJoin]
  rw [strs_back]
  exact ⟨hs, h⟩
theorem rows_lines {Pc : List D → Prop} : ∀ (rows : List Rw) (k : Nat) (acc : List D) (e0 e1 e2 e3 : EV), (∀ r ∈ rows, MdRw r) → acc.length + rows.length ≤ 100 → Pc (acc ++ strsL (rows.map fun r => lineOf r.words)) →
    mLcL (gTp 2 (gsCons 4 (gsCons 5 gsNil))) mYes (mBMt "str" fJoin (mC (.str " ")) (mCons (mVar 4) mNil)) [4, 5] (outs k rows) acc [e0, e1, e2, e3, .un, .un] Pc
  | [], k, acc, e0, e1, e2, e3, _, _, hP => by
    have e : acc ++ strsL (([] : List Rw).map fun r => lineOf r.words) = acc := List.append_nil _
    rw [e] at hP
    exact hP
  | r :: rows, k, acc, e0, e1, e2, e3, ho, hl, hP => by
    rw [List.length_cons] at hl
    have big := big_size
    have h1 := ho r List.mem_cons_self
    have h2 := sum_le (B := 13) (ws := r.words) fun z hz => (rw_words h1.1 z hz).2.2.2
    have h3 := h1.2
    refine ⟨rfl, rfl, rfl, join_step (ws := r.words) rfl ?_ ⟨rfl, by omega, ?_⟩⟩
    · have : (" " : Str).length = 1 := by decide +kernel
      rw [this]
      omega
    refine rows_lines rows (k + 1) (acc ++ [.str (lineOf r.words)]) e0 e1 e2 e3 (fun q hq => ho q (List.mem_cons_of_mem _ hq)) (by rw [List.length_append, List.length_singleton]; omega) ?_
    rw [List.append_assoc, List.singleton_append]
    exact hP
section
variable {P : Program} {w : World} {K : PySem.W.Frag} {mg : Str → Option Value} {base : Heap} {C : Addr} {f : Addr} {fd : FuncData}
theorem ok_both (T : Tb K w mg C) (c_law_row_out : Cal P w K mg base "_law_row_out" 14 ["_law_made", "_law_row_here"] 0 spRowOut)
    (F : Fun K "_law_both" "_law_both" s_law_both f fd) : FnG P w K mg base CX0 15 f fd ["_law_made"] (spD K 0 spBoth) := by
  have nd := sc_law_both.nd
  refine okDG (k := 14) F sc_law_both (fun as Q h => by obtain ⟨e, rfl, _⟩ := h; rfl) (fun cdv A fs s H E hr => have hu := hr.rm.units; have hgd := hr.gd; (gss_cons (gs_setLc 0 (i := 1) rfl nd rfl rfl (sw_true rfl rfl rfl (by decide +kernel)) (gi_enum (by rfl) T.n_enumerate (ga_cons (ge_var 0) ga_nil)) (blkOk_by (own := [("_law_row_here", 2), ("_law_one", 3)]) (N := N_law_both) (sc := defScope s_law_both) (by decide +kernel)) (fun _ _ _ _ _ => (gg_tup (n := 2) rfl (ggs_cons (i := 2) (vs := (List.map (·.2) ([("_law_row_here", 2), ("_law_one", 3)] : List (Str × Nat)))) nd rfl (.inl rfl) (by decide) (ggs_cons (i := 3) (vs := (List.map (·.2) ([("_law_row_here", 2), ("_law_one", 3)] : List (Str × Nat)))) nd rfl (.inl rfl) (by decide) ggs_nil)))) (fun _ _ _ _ _ => gts_nil) (fun _ _ _ _ _ => (ge_cal c_law_row_out (hr.mono (by first | decide | omega)) (by rfl) (ga_cons (ge_var 3) (ga_cons (ge_var 2) ga_nil)))))
      (gss_one (gs_ret (ge_tup (ga_cons (ge_bm PySem.F.plainAttrs_str PySem.F.slot_str_join PySem.F.type_str_join md_join ge_str (ga_cons (ge_pub (gf_lc 0 rfl nd (gi_list (ge_var 1)) (blkOk_by (own := [("_law_words", 4), ("_law_heard_so", 5)]) (N := N_law_both) (sc := defScope s_law_both) (by decide +kernel)) (fun _ _ _ _ _ => (gg_tup (n := 2) rfl (ggs_cons (i := 4) (vs := (List.map (·.2) ([("_law_words", 4), ("_law_heard_so", 5)] : List (Str × Nat)))) nd rfl (.inl rfl) (by decide) (ggs_cons (i := 5) (vs := (List.map (·.2) ([("_law_words", 4), ("_law_heard_so", 5)] : List (Str × Nat)))) nd rfl (.inl rfl) (by decide) ggs_nil)))) (fun _ _ _ _ _ => gts_nil) (fun _ _ _ _ _ => (ge_bm PySem.F.plainAttrs_str PySem.F.slot_str_join PySem.F.type_str_join md_join ge_str (ga_cons (ge_var 4) ga_nil))))) ga_nil)) (ga_cons (ge_callTy cd_tuple (by rfl) T.n_tuple (by decide +kernel) (ga_cons (ge_pub (gf_lc 0 rfl nd (gi_list (ge_var 1)) (blkOk_by (own := [("_law_words", 4), ("_law_heard_so", 5)]) (N := N_law_both) (sc := defScope s_law_both) (by decide +kernel)) (fun _ _ _ _ _ => (gg_tup (n := 2) rfl (ggs_cons (i := 4) (vs := (List.map (·.2) ([("_law_words", 4), ("_law_heard_so", 5)] : List (Str × Nat)))) nd rfl (.inl rfl) (by decide) (ggs_cons (i := 5) (vs := (List.map (·.2) ([("_law_words", 4), ("_law_heard_so", 5)] : List (Str × Nat)))) nd rfl (.inl rfl) (by decide) ggs_nil)))) (fun _ _ _ _ _ => gts_nil) (fun _ _ _ _ _ => (ge_var 5)))) ga_nil)) ga_nil))))))) (by decide) (fun as Q h => ?_)
  obtain ⟨rows, rfl, hr, hQ⟩ := h
  have big := big_size
  have hl := hr.1
  refine ⟨?_, fun i hi w c => ?_, ?_⟩
  · rw [Nat.mul_comm]
    exact Nat.le_of_eq (Nat.zero_mul _)
  · have : i = 2 ∨ i = 3 := by simpa using hi
    rcases this with rfl | rfl <;> exact fun hz => by cases hz
  rw [pairs_eq]
  refine rows_out rows 0 [] _ _ _ _ hr.2.1 (by rw [List.length_nil]; omega) ?_
  rw [List.nil_append]
  refine ⟨rfl, ?_, fun i hi w c => ?_, ?_⟩
  · rw [Nat.mul_comm]
    exact Nat.le_of_eq (Nat.zero_mul _)
  · have : i = 4 ∨ i = 5 := by simpa using hi
    rcases this with rfl | rfl <;> exact fun hz => by cases hz
  refine rows_lines rows 0 [] _ _ _ _ hr.2.1 (by rw [List.length_nil]; omega) ?_
  rw [List.nil_append]
  dsimp only [mNil, mDats, dats, Option.map, fJoin]
  rw [strs_back]
  refine ⟨?_, ?_⟩
  · have h1 := sum_le (B := 2800) (ws := rows.map fun r => lineOf r.words) fun z hz => by
      obtain ⟨r, hm, rfl⟩ := List.mem_map.mp hz
      have h1 := line_len (rw_words (hr.2.1 r hm).1)
      have h2 := (hr.2.1 r hm).2
      omega
    have : ("\n" : Str).length = 1 := by decide +kernel
    rw [this]
    rw [List.length_map] at h1 ⊢
    omega
  refine ⟨?_, fun i hi w c => ?_, ?_⟩
  · rw [Nat.mul_comm]
    exact Nat.le_of_eq (Nat.zero_mul _)
  · have : i = 4 ∨ i = 5 := by simpa using hi
    rcases this with rfl | rfl <;> exact fun hz => by cases hz
  refine rows_heard rows 0 [] _ _ _ _ (by rw [List.length_nil]; omega) ?_
  rw [List.nil_append]
  exact ⟨(show (2 : Nat) ≤ sizeLine by decide), hQ⟩
end
end L05
namespace L05
open PySem PySem.Spec PyProof.Rows L2 DL
/-! ### the trees can be shown -/
theorem bk_str {z : Str} (h : z.length ≤ 13) (hc : ∀ c ∈ TL.tl z, c < 256) : Bk 0 14 (.str z) := bk_strN h (by decide) fun c hm => Nat.lt_trans (hc c hm) (by decide)
theorem nm_256 {z : Str} (h : NmOk z) : ∀ c ∈ TL.tl z, c < 256 := fun c hc => by
  have hs := nm_signs h
  rw [List.all_eq_true] at hs
  exact (let_ne c (of_decide_eq_true (hs c hc))).2.2.2
theorem tn_256 {z : Str} (h : TnOk z) : ∀ c ∈ TL.tl z, c < 256 := fun c hc => by
  rcases h with h | ⟨a, b, ha, hb, rfl⟩
  · exact nm_256 h c hc
  · rw [TL.tl_append, TL.tl_append, dot_tl, List.mem_append, List.mem_append] at hc
    rcases hc with hc | hc | hc
    · exact nm_256 ha c hc
    · have : c = 46 := List.mem_singleton.mp hc
      omega
    · exact nm_256 hb c hc
theorem bk_nm {z : Str} (h : NmOk z) : Bk 0 14 (.str z) := bk_str (by have := nm_len h; omega) (nm_256 h)
theorem bk_tn {z : Str} (h : TnOk z) : Bk 0 14 (.str z) := bk_str (tn_len h).2 (tn_256 h)
def wsB (z : Str) : Bool := decide (z.length ≤ 13) && z.cps.toList.all fun c => decide (c < 256)
theorem bk_ws {z : Str} (h : wsB z = true) : Bk 0 14 (.str z) := by
  simp only [wsB, Bool.and_eq_true, decide_eq_true_eq, List.all_eq_true] at h
  exact bk_str h.1 h.2
theorem bk_place {r p : Nat} (hr : r < 2 ^ 64) (hp : p < 2 ^ 64) : Bk 1 3 (placeD r p) := bk_tup (bk_cons (bk_int hr) (bk_cons (bk_int hp) (bk_nil (m := 0))))
theorem bk_wordB : ∀ o : _root_.Fin 7, wsB (twoS o) = true := by decide +kernel
theorem bk_word (e : Ex) : Bk 0 14 (.str e.word) := by
  cases e with
  | two o a b => exact bk_ws (bk_wordB o)
  | num _ _ => exact bk_ws (z := "num") (by decide +kernel)
  | nm _ => exact bk_ws (z := "name") (by decide +kernel)
  | not _ => exact bk_ws (z := "not") (by decide +kernel)
  | pick _ _ _ => exact bk_ws (z := "pick") (by decide +kernel)
  | cut _ _ => exact bk_ws (z := "cut") (by decide +kernel)
  | bit _ _ => exact bk_ws (z := "bit") (by decide +kernel)
theorem bk_ex {r : Nat} (hr : r < 2 ^ 64) : ∀ (e : Ex) (p : Nat), e.ok → p + e.words.length < 2 ^ 64 → Bk (e.dep + 1) (120 * e.ops + 40) (e.tree r p) := by
  intro e
  induction e with
  | num w k =>
    intro p ho hp
    simp only [Ex.words, List.length_cons, List.length_nil] at hp
    have hw := ho.2.1
    have hk := ho.2.2
    exact (bk_tup (bk_cons ((bk_word (.num w k)).le (Nat.zero_le 1) (Nat.le_refl _)) (bk_cons (bk_place hr (p := p) (by omega)) (bk_cons ((bk_int (k := w) (by omega)).le (Nat.zero_le _) (Nat.le_refl _)) (bk_cons ((bk_int (k := k) (by omega)).le (Nat.zero_le _) (Nat.le_refl _)) (bk_nil (m := 0))))))).le (by simp [Ex.dep]) (by simp [Ex.ops])
  | nm t =>
    intro p ho hp
    simp only [Ex.words, List.length_cons, List.length_nil] at hp
    exact (bk_tup (bk_cons ((bk_word (.nm t)).le (Nat.zero_le 1) (Nat.le_refl _)) (bk_cons (bk_place hr (p := p) (by omega)) (bk_cons ((bk_tn ho).le (Nat.zero_le _) (Nat.le_refl _)) (bk_nil (m := 0)))))).le (by simp [Ex.dep]) (by simp [Ex.ops])
  | not a i1 =>
    intro p ho hp
    simp only [Ex.words, List.length_cons] at hp
    have da := a.dep_pos
    exact (bk_tup (d := a.dep + 1) (bk_cons ((bk_word (.not a)).le (Nat.zero_le _) (Nat.le_refl _)) (bk_cons ((bk_place hr (p := p) (by omega)).le (by omega) (Nat.le_refl _)) (bk_cons (i1 (p + 1) ho (by omega)) (bk_nil (m := 0)))))).le (by simp [Ex.dep]) (by simp only [Ex.ops]; omega)
  | pick a b c i1 i2 i3 =>
    intro p ho hp
    simp only [Ex.words, List.length_cons, List.length_append] at hp
    have da := a.dep_pos
    exact (bk_tup (d := max a.dep (max b.dep c.dep) + 1) (bk_cons ((bk_word (.pick a b c)).le (Nat.zero_le _) (Nat.le_refl _)) (bk_cons ((bk_place hr (p := p) (by omega)).le (by omega) (Nat.le_refl _)) (bk_cons ((i1 (p + 1) ho.1 (by omega)).le (by omega) (Nat.le_refl _)) (bk_cons ((i2 (p + 1 + a.words.length) ho.2.1 (by omega)).le (by omega) (Nat.le_refl _)) (bk_cons ((i3 (p + 1 + a.words.length + b.words.length) ho.2.2 (by omega)).le (by omega) (Nat.le_refl _)) (bk_nil (m := 0)))))))).le (by simp [Ex.dep]) (by simp only [Ex.ops]; omega)
  | cut w a i1 =>
    intro p ho hp
    simp only [Ex.words, List.length_cons] at hp
    have da := a.dep_pos
    have hw := ho.1.2
    exact (bk_tup (d := a.dep + 1) (bk_cons ((bk_word (.cut w a)).le (Nat.zero_le _) (Nat.le_refl _)) (bk_cons ((bk_place hr (p := p) (by omega)).le (by omega) (Nat.le_refl _)) (bk_cons ((bk_int (k := w) (by omega)).le (Nat.zero_le _) (Nat.le_refl _)) (bk_cons (i1 (p + 1 + 1) ho.2 (by omega)) (bk_nil (m := 0))))))).le (by simp [Ex.dep]) (by simp only [Ex.ops]; omega)
  | bit w a i1 =>
    intro p ho hp
    simp only [Ex.words, List.length_cons] at hp
    have da := a.dep_pos
    have hw := ho.1
    exact (bk_tup (d := a.dep + 1) (bk_cons ((bk_word (.bit w a)).le (Nat.zero_le _) (Nat.le_refl _)) (bk_cons ((bk_place hr (p := p) (by omega)).le (by omega) (Nat.le_refl _)) (bk_cons ((bk_int (k := w) (by omega)).le (Nat.zero_le _) (Nat.le_refl _)) (bk_cons (i1 (p + 1 + 1) ho.2 (by omega)) (bk_nil (m := 0))))))).le (by simp [Ex.dep]) (by simp only [Ex.ops]; omega)
  | two o a b i1 i2 =>
    intro p ho hp
    simp only [Ex.words, List.length_cons, List.length_append] at hp
    have da := a.dep_pos
    exact (bk_tup (d := max a.dep b.dep + 1) (bk_cons ((bk_word (.two o a b)).le (Nat.zero_le _) (Nat.le_refl _)) (bk_cons ((bk_place hr (p := p) (by omega)).le (by omega) (Nat.le_refl _)) (bk_cons ((i1 (p + 1) ho.1 (by omega)).le (by omega) (Nat.le_refl _)) (bk_cons ((i2 (p + 1 + a.words.length) ho.2 (by omega)).le (by omega) (Nat.le_refl _)) (bk_nil (m := 0))))))).le (by simp [Ex.dep]) (by simp only [Ex.ops]; omega)
end L05
namespace L05
open PySem PySem.Spec PyProof.Rows L2 DL
theorem Ex.ops_le (e : Ex) : e.ops + 1 ≤ e.words.length := by
  induction e with
  | num w k => simp [Ex.words, Ex.ops]
  | nm t => simp [Ex.words, Ex.ops]
  | not a ih => simp only [Ex.words, Ex.ops, List.length_cons]; omega
  | pick a b c i1 i2 i3 => simp only [Ex.words, Ex.ops, List.length_cons, List.length_append]; omega
  | cut w a ih => simp only [Ex.words, Ex.ops, List.length_cons]; omega
  | bit k a ih => simp only [Ex.words, Ex.ops, List.length_cons]; omega
  | two o a b i1 i2 => simp only [Ex.words, Ex.ops, List.length_cons, List.length_append]; omega
theorem bk_pt {r p : Nat} {pt : Pt} (hr : r < 2 ^ 64) (hg : PtG pt) (hd : pt.dep ≤ 12) (hp : p + pt.words.length < 2 ^ 64) : Bk 13 (120 * pt.words.length) (pt.tree r p) := by
  cases pt with
  | n k =>
    have hg : k < 65536 := hg
    exact (bk_int (k := k) (by omega)).le (by omega) (by simp [Pt.words])
  | nme z => exact (bk_nm hg).le (by omega) (by simp [Pt.words])
  | ref z =>
    have hp : p + 1 < 2 ^ 64 := hp
    exact (bk_ex hr (.nm z) p (.inl hg) hp).le (by simp [Ex.dep]) (by simp [Pt.words, Ex.ops])
  | e x =>
    have hd : x.dep ≤ 12 := hd
    have ho := x.ops_le
    have e : (Pt.e x).words = x.words := rfl
    rw [e] at hp ⊢
    exact (bk_ex hr x p hg hp).le (by omega) (by omega)
theorem bk_treeP {r : Nat} (hr : r < 2 ^ 64) : ∀ (ps : List Pt) (p : Nat), (∀ q ∈ ps, PtG q) → (∀ q ∈ ps, q.dep ≤ 12) → p + (wordsP ps).length < 2 ^ 64 → BkA 13 (120 * (wordsP ps).length) (treeP r p ps)
  | [], p, _, _, _ => bk_nil
  | x :: ps, p, hg, hd, hp => by
    rw [wordsP_cons, List.length_append] at hp
    have h := bk_cons (bk_pt hr (hg x List.mem_cons_self) (hd x List.mem_cons_self) (p := p) (by omega)) (bk_treeP hr ps (p + x.words.length) (fun q hq => hg q (List.mem_cons_of_mem _ hq)) (fun q hq => hd q (List.mem_cons_of_mem _ hq)) (by omega))
    rw [wordsP_cons, List.length_append, Nat.mul_add]
    exact h
theorem bk_names : ∀ (hs : List Str), (∀ z ∈ hs, NmOk z) → BkA 0 (14 * hs.length) (hs.map PyData.str)
  | [], _ => bk_nil
  | z :: hs, h => by
    have := bk_cons (bk_nm (h z List.mem_cons_self)) (bk_names hs fun q hq => h q (List.mem_cons_of_mem _ hq))
    exact this.le (Nat.le_refl _) (by rw [List.length_cons]; omega)
theorem row_wsB : ∀ q ∈ rowsG, wsB q.1 = true := by decide +kernel
theorem bk_row {r : Nat} {rw : Rw} (hr : r < 2 ^ 64) (h : MdRw rw) : Bk 15 (120 * rw.words.length) (rw.tree r) := by
  obtain ⟨ho, hl⟩ := h
  cases rw with
  | prt wd ps =>
    obtain ⟨sh, h1, _, hk, hp, hd⟩ := ho
    have e : (Rw.prt wd ps).words.length = (wordsP ps).length + 1 := rfl
    rw [e] at hl ⊢
    obtain ⟨q, hq, e⟩ := lookup_mem h1
    have hw : Bk 0 14 (.str wd) := by
      rw [← e]
      exact bk_ws (row_wsB q hq)
    exact (bk_tup (bk_cons (hw.up (Nat.zero_le 13)) (bk_treeP hr ps 1 (ptg_all hk) hd (by omega)))).le (by omega) (by omega)
  | use x c hs es =>
    obtain ⟨hx, hc, hhs, h4, h6, he⟩ := ho
    have e : (Rw.use x c hs es).words.length = hs.length + (wordsP (es.map Pt.e)).length + 4 := by
      show (useW x c hs es).length + 1 = _
      simp only [useW, List.length_cons, List.length_append]
    rw [e] at hl ⊢
    have ht := bk_treeP hr (es.map Pt.e) (4 + hs.length) (fun q hq => by
      obtain ⟨e, hm, rfl⟩ := List.mem_map.mp hq
      exact (he e hm).1) (fun q hq => by
      obtain ⟨e, hm, rfl⟩ := List.mem_map.mp hq
      exact (he e hm).2) (by omega)
    have hu : Bk 0 14 (.str ("use" : Str)) := bk_ws (by decide +kernel)
    exact (bk_tup (d := 14) (bk_cons (hu.up (by omega)) (bk_cons ((bk_nm hx).up (by omega)) (bk_cons ((bk_nm hc).up (by omega)) (bk_cons ((bk_tup (bk_names hs hhs)).up (by omega)) (bk_cons (bk_tup ht) (bk_nil (m := 0)))))))).le (by omega) (by omega)
theorem bk_rows : ∀ (rows : List Rw) (k : Nat), (∀ r ∈ rows, MdRw r) → k + rows.length < 2 ^ 64 → BkA 15 (120 * (rows.map fun r => r.words.length).sum) (treesFrom k rows)
  | [], _, _, _ => bk_nil
  | r :: rows, k, h, hk => by
    rw [List.length_cons] at hk
    have := bk_cons (bk_row (r := k) (by omega) (h r List.mem_cons_self)) (bk_rows rows (k + 1) (fun q hq => h q (List.mem_cons_of_mem _ hq)) (by omega))
    exact this.le (Nat.le_refl _) (by rw [List.map_cons, List.sum_cons]; omega)
def treeD (rows : List Rw) : D := .tuple (treesFrom 0 rows)
theorem rows_bk {rows : List Rw} (h : RowsOk rows) : Bk 16 290000 (treeD rows) := by
  have h1 := h.1
  have h3 := h.2.2
  exact (bk_tup (bk_rows rows 0 h.2.1 (by omega))).le (by omega) (by omega)
end L05
namespace L05
open PySem PySem.Spec PyProof.Rows L2 DL
/-! ### trees are written -/
inductive WTs (d : Nat) : List D → List Str → Prop
  | nil : WTs d [] []
  | cons {pt : Pt} {r p : Nat} {xs : List D} {ws : List Str} : PtG pt → pt.dep + 1 ≤ d → WTs d xs ws → WTs d (pt.tree r p :: xs) (pt.words ++ ws)
theorem WTs.app {d : Nat} {xs ys : List D} {vs ws : List Str} (h : WTs d xs vs) (t : WTs d ys ws) : WTs d (xs ++ ys) (vs ++ ws) := by
  induction h with
  | nil => exact t
  | cons a b _ ih =>
    rw [List.cons_append, List.append_assoc]
    exact .cons a b ih
theorem wts_P {d r : Nat} : ∀ {ps : List Pt} {p : Nat}, (∀ q ∈ ps, PtG q) → (∀ q ∈ ps, q.dep + 1 ≤ d) → WTs d (treeP r p ps) (wordsP ps)
  | [], _, _, _ => .nil
  | x :: ps, p, h, hd => by
    rw [treeP, wordsP_cons]
    exact .cons (h x List.mem_cons_self) (hd x List.mem_cons_self) (wts_P (fun q hq => h q (List.mem_cons_of_mem _ hq)) fun q hq => hd q (List.mem_cons_of_mem _ hq))
def spWords (d : Nat) : List EV → (D → Prop) → Prop := fun as P => ∃ (pt : Pt) (r p : Nat), as = [.d (pt.tree r p)] ∧ PtG pt ∧ pt.dep + 1 ≤ d ∧ pt.words.length ≤ 200 ∧ P (.list (strsL pt.words))
def spRowW : List EV → (D → Prop) → Prop := fun as P => ∃ (rw : Rw) (r : Nat), as = [.d (rw.tree r)] ∧ MdRw rw ∧ P (.list (strsL rw.words))
def spShow : List EV → (D → Prop) → Prop := fun as P => ∃ rows : List Rw, as = [.d (treeD rows)] ∧ RowsOk rows ∧ P (.str (textOf rows))
theorem wts_N {d : Nat} (d1 : 1 ≤ d) : ∀ {hs : List Str}, (∀ z ∈ hs, NmOk z) → WTs d (hs.map PyData.str) hs
  | [], _ => .nil
  | z :: hs, h => .cons (pt := .nme z) (r := 0) (p := 0) (h z List.mem_cons_self) (by simpa [Pt.dep] using d1) (wts_N d1 fun q hq => h q (List.mem_cons_of_mem _ hq))
theorem call_one {i : Nat} {env : DEnv} {x : D} {sp : List EV → (D → Prop) → Prop} {Pd : D → DEnv → Prop} (h : env[i]? = some (.d x)) (hs : sp [.d x] fun z => Pd z env) : mCall sp (mCons (mVar i) mNil) env Pd := by
  unfold mCall mCons mVar
  rw [h]
  exact hs
theorem words_walk {d j : Nat} : ∀ {xs : List D} {ws : List Str}, WTs d xs ws → ∀ (acc : List D) {env : DEnv} {Pc : List D → Prop}, j + 1 < env.length → acc.length + ws.length ≤ 200 → Pc (acc ++ strsL ws) →
    mLc2L (0 + 0) 0 (gNm j) mYes (miSeq (mCall (spWords d) (mCons (mVar j) mNil))) (gNm (j + 1)) mYes (mVar (j + 1)) [j, j + 1] [j + 1] xs acc env Pc
  | _, _, .nil, acc, env, Pc, _, _, h => by
    have e : acc ++ strsL [] = acc := List.append_nil _
    rw [e] at h
    exact h
  | _, _, .cons (pt := pt) (r := r) (p := p) (xs := xs) (ws := ws) hg hd t, acc, env, Pc, hj, hl, h => by
    rw [List.length_append] at hl
    have big := big_size
    have hj2 : j < (wipeE env [j, j + 1]).length := by rw [wipeE_length]; omega
    refine ⟨rfl, call_one (List.getElem?_set_self hj2) ?_⟩
    refine ⟨pt, r, p, rfl, hg, hd, by omega, rfl, fun i hi w c => ?_, by omega, ?_⟩
    · have : i = j + 1 := List.mem_singleton.mp hi
      subst this
      rw [List.getElem?_set_ne (by omega)]
      intro z
      have := wipeE_in (List.mem_cons_of_mem _ List.mem_cons_self) z
      cases this
    · refine lcl_id _ _ (by rw [List.length_set, wipeE_length]; exact hj) (by rw [strs_len]; omega) ?_
      refine words_walk t (acc ++ strsL pt.words) hj (by rw [List.length_append, strs_len]; omega) ?_
      rw [List.append_assoc, strs_app]
      exact h
section
variable {P : Program} {w : World} {K : PySem.W.Frag} {mg : Str → Option Value} {base : Heap} {C : Addr} {f : Addr} {fd : FuncData}
theorem ok_words_of {d : Nat} (T : Tb K w mg C) (c_words_of : Cal P w K mg base "words_of" (d + 1) ["part"] 0 (spWords d))
    (F : Fun K "words_of" "words_of" s_words_of f fd) : FnG P w K mg base CX0 (d + 2) f fd ["part"] (spD K 0 (spWords (d + 1))) := by
  have nd := sc_words_of.nd
  refine okDG (k := d + 1) F sc_words_of (fun as Q h => by obtain ⟨e, r, p, rfl, _⟩ := h; rfl) (fun cdv A fs s H E hr => have hu := hr.rm.units; have hgd := hr.gd; (gss_cons (gs_if (gt_not (gt_val (ge_isi kit_tuple (by rfl) T.n_isinstance (by rfl) T.n_tuple (by decide +kernel) (ge_var 0)))) (gss_one (gs_ret (ge_lst (ga_cons (ge_callTy cd_strX (by rfl) T.n_str (by decide +kernel) (ga_cons (ge_var 0) ga_nil)) ga_nil)))) gss_nil)
      (gss_cons (gs_asg (ge_var 0) (gg_starT (n := 3) (i := 2) rfl (ggs_cons (i := 1) (vs := [1, 2, 3]) nd rfl (.inl rfl) (by decide) (ggs_cons (i := 2) (vs := [1, 2, 3]) nd rfl (.inl rfl) (by decide) (ggs_star (j := 3) (vs := [1, 2, 3]) nd rfl (.inl rfl) (by decide) ggs_nil)))))
      (gss_cons (gs_if (gt_cmp (od_eq hu) (ge_var 1) ge_str (nomark _)) (gss_one (gs_ret (ge_lst (ga_cons (ge_callTy cd_strX (by rfl) T.n_str (by decide +kernel) (ga_cons (ge_ix od_ix (ge_var 3) ge_int (fun _ _ => rfl)) ga_nil)) ga_nil)))) gss_nil)
      (gss_one (gs_ret (ge_op od_add (ge_lst (ga_cons (ge_var 1) ga_nil)) (ge_pub (gf_lc2 0 0 rfl nd (gi_list (ge_var 3)) (blkOk_by (own := [("one", 4), ("more", 5)]) (N := N_words_of) (sc := defScope s_words_of) (by decide +kernel)) (vs1 := [5]) (by decide) (fun _ _ _ _ _ => (gg_name (i := 4) (vs := (List.map (·.2) ([("one", 4), ("more", 5)] : List (Str × Nat)))) nd rfl (.inl rfl) (by decide))) (fun _ _ _ _ _ => gts_nil) (fun _ _ _ _ _ => (gi_list (ge_cal c_words_of (hr.mono (by first | decide | omega)) (by rfl) (ga_cons (ge_var 4) ga_nil)))) (fun _ _ _ _ _ => (gg_name (i := 5) (vs := [5]) nd rfl (.inl rfl) (by decide))) (fun _ _ _ _ _ => gts_nil) (fun _ _ _ _ _ => (ge_var 5))))))))))) (by decide) (fun as Q h => ?_)
  obtain ⟨pt, r, p, rfl, hg, hd, hl, hQ⟩ := h
  have big := big_size
  cases hx : pt.ex with
  | none =>
    obtain ⟨z, z1, z2, z3⟩ := pt_no hx hg
    rw [z2 r p]
    rw [z1] at hQ
    show match (!isiD "tuple" pt.toD) with | true => _ | false => _
    rw [pt_isi, hx]
    exact z3 _ ⟨(show (1 : Nat) ≤ sizeLine by decide), hQ⟩
  | some x =>
    obtain ⟨x1, x2, x3⟩ := pt_ex hx
    have ho : x.ok ∧ (x.isNm = false → x.dep ≤ d) := by
      cases pt with
      | e y =>
        cases hx
        exact ⟨hg, fun _ => Nat.le_of_succ_le_succ hd⟩
      | ref z =>
        cases hx
        exact ⟨.inl hg, fun z => by cases z⟩
      | n k => cases hx
      | nme z => cases hx
    rw [x2] at hl hQ
    rw [x3 r p]
    cases hn : x.isNm with
    | true =>
      cases x with
      | nm t =>
        show _ ∧ _ ∧ _ ∧ _
        refine ⟨by decide, (show (3 : Nat) ≤ 4 by decide), (show (3 : Nat) ≤ 16384 by decide), rfl, ?_⟩
        exact ⟨_, rfl, (show (1 : Nat) ≤ sizeLine by decide), hQ⟩
      | _ => cases hn
    | false =>
      obtain ⟨shp, _, hks, hdp⟩ := ex_shape hn ho.1
      have hwl : (wordsP x.parts).length + 1 = x.words.length := by rw [Ex.words_eq hn]; rfl
      have hpl : x.parts.length ≤ 3 := by cases x <;> simp [Ex.parts]
      rw [Ex.tree_eq hn]
      rw [Ex.words_eq hn] at hQ
      have lt := treeP_len r x.parts (p + 1)
      refine ⟨by decide, ?_, ?_, ?_⟩
      · rw [List.length_cons, List.length_cons]
        omega
      · rw [List.length_cons, List.length_cons, lt]
        omega
      · have es : starD 2 3 (PyData.str x.word :: placeD r p :: treeP r (p + 1) x.parts) = [.str x.word, placeD r p, .list (treeP r (p + 1) x.parts)] := by
          have e1 : (PyData.str x.word :: placeD r p :: treeP r (p + 1) x.parts).length + 1 - 3 = (treeP r (p + 1) x.parts).length := by rw [List.length_cons, List.length_cons]; omega
          unfold starD
          rw [e1]
          simp
        rw [es]
        refine ⟨rfl, ?_⟩
        show match decide (x.word = "name") with | true => _ | false => _
        rw [decide_eq_false (word_name x hn)]
        refine ⟨(show (1 : Nat) ≤ sizeLine by decide), by omega, fun i hi w c => ?_, ?_⟩
        · have : i = 4 ∨ i = 5 := by simpa using hi
          rcases this with rfl | rfl <;> exact fun hz => by cases hz
        · refine words_walk (j := 4) (wts_P (d := d) (ptg_all hks) fun q hq => ?_) [] (show 5 < 6 by decide) (by rw [List.length_nil]; omega) ?_
          · have := hdp q hq
            have h2 := ho.2 hn
            omega
          · refine ⟨?_, hQ⟩
            rw [List.nil_append, strs_len]
            show 1 + _ ≤ sizeLine
            omega
theorem ok_row_words (T : Tb K w mg C) (c_words_of : Cal P w K mg base "words_of" 14 ["part"] 0 (spWords 13))
    (F : Fun K "row_words" "row_words" s_row_words f fd) : FnG P w K mg base CX0 15 f fd ["row"] (spD K 0 spRowW) := by
  have nd := sc_row_words.nd
  refine okDG (k := 14) F sc_row_words (fun as Q h => by obtain ⟨e, r, rfl, _⟩ := h; rfl) (fun cdv A fs s H E hr => have hu := hr.rm.units; have hgd := hr.gd; (gss_cons (gs_asg (ge_var 0) (gg_starT (n := 2) (i := 1) rfl (ggs_cons (i := 1) (vs := [1, 2]) nd rfl (.inl rfl) (by decide) (ggs_star (j := 2) (vs := [1, 2]) nd rfl (.inl rfl) (by decide) ggs_nil))))
      (gss_cons (gs_if (gt_cmp (od_eq hu) (ge_var 1) ge_str (nomark _)) (gss_cons (gs_asg (ge_var 2) (gg_unl (n := 4) rfl (ggs_cons (i := 3) (vs := [3, 4, 5, 6]) nd rfl (.inl rfl) (by decide) (ggs_cons (i := 4) (vs := [3, 4, 5, 6]) nd rfl (.inl rfl) (by decide) (ggs_cons (i := 5) (vs := [3, 4, 5, 6]) nd rfl (.inl rfl) (by decide) (ggs_cons (i := 6) (vs := [3, 4, 5, 6]) nd rfl (.inl rfl) (by decide) ggs_nil))))))
      (gss_one (gs_set (i := 2) nd rfl (.inl rfl) (ge_op od_add (ge_op od_add (ge_lst (ga_cons (ge_var 3) (ga_cons (ge_var 4) (ga_cons (ge_callB cd_len (by rfl) T.n_len PySem.boot_len (ga_cons (ge_var 5) ga_nil)) ga_nil)))) (ge_callTy cd_list (by rfl) T.n_list (by decide +kernel) (ga_cons (ge_var 5) ga_nil))) (ge_callTy cd_list (by rfl) T.n_list (by decide +kernel) (ga_cons (ge_var 6) ga_nil)))))) gss_nil)
      (gss_one (gs_ret (ge_op od_add (ge_lst (ga_cons (ge_var 1) ga_nil)) (ge_pub (gf_lc2 0 0 rfl nd (gi_list (ge_var 2)) (blkOk_by (own := [("part", 7), ("more", 8)]) (N := N_row_words) (sc := defScope s_row_words) (by decide +kernel)) (vs1 := [8]) (by decide) (fun _ _ _ _ _ => (gg_name (i := 7) (vs := (List.map (·.2) ([("part", 7), ("more", 8)] : List (Str × Nat)))) nd rfl (.inl rfl) (by decide))) (fun _ _ _ _ _ => gts_nil) (fun _ _ _ _ _ => (gi_list (ge_cal c_words_of (hr.mono (by first | decide | omega)) (by rfl) (ga_cons (ge_var 7) ga_nil)))) (fun _ _ _ _ _ => (gg_name (i := 8) (vs := [8]) nd rfl (.inl rfl) (by decide))) (fun _ _ _ _ _ => gts_nil) (fun _ _ _ _ _ => (ge_var 8)))))))))) (by decide) (fun as Q h => ?_)
  obtain ⟨rw, r, rfl, hm, hQ⟩ := h
  have big := big_size
  cases rw with
  | prt wd ps =>
    obtain ⟨⟨sh, h1, hu, hk, hp, hd⟩, hl⟩ := hm
    have hl : (wordsP ps).length + 1 ≤ 200 := hl
    have lt := treeP_len r ps 1
    refine ⟨by decide, ?_, ?_, ?_⟩
    · rw [List.length_cons]
      omega
    · rw [List.length_cons, lt]
      omega
    have es : starD 1 2 (PyData.str wd :: treeP r 1 ps) = [.str wd, .list (treeP r 1 ps)] := by
      have e1 : (PyData.str wd :: treeP r 1 ps).length + 1 - 2 = (treeP r 1 ps).length := by rw [List.length_cons]; omega
      unfold starD
      rw [e1]
      simp
    rw [es]
    refine ⟨rfl, ?_⟩
    show match decide (wd = "use") with | true => _ | false => _
    rw [decide_eq_false hu]
    refine ⟨(show (1 : Nat) ≤ sizeLine by decide), by omega, fun i hi w c => ?_, ?_⟩
    · have : i = 7 ∨ i = 8 := by simpa using hi
      rcases this with rfl | rfl <;> exact fun hz => by cases hz
    refine words_walk (j := 7) (wts_P (d := 13) (ptg_all hk) fun q hq => Nat.succ_le_succ (hd q hq)) [] (show 8 < 9 by decide) (by rw [List.length_nil]; omega) ?_
    refine ⟨?_, hQ⟩
    rw [List.nil_append, strs_len]
    show 1 + _ ≤ sizeLine
    omega
  | use x c hs es =>
    obtain ⟨⟨hx, hc, hh, h4, h6, he⟩, hl⟩ := hm
    have hl : (useW x c hs es).length + 1 ≤ 200 := hl
    have hul : (useW x c hs es).length = hs.length + (wordsP (es.map Pt.e)).length + 3 := by
      simp only [useW, List.length_cons, List.length_append]
    have lt := treeP_len r (es.map Pt.e) (4 + hs.length)
    rw [List.length_map] at lt
    refine ⟨by decide, (show (2 : Nat) ≤ 6 by decide), (show (5 : Nat) ≤ 16384 by decide), rfl, ?_⟩
    refine ⟨rfl, rfl, (show (3 : Nat) ≤ sizeLine by decide), ?_⟩
    have hl3 : (hs.map PyData.str).length = hs.length := List.length_map ..
    refine ⟨?_, ?_, (show (1 : Nat) ≤ sizeLine by decide), by omega, fun i hi w c => ?_, ?_⟩
    · show 3 + (hs.map PyData.str).length ≤ sizeLine
      omega
    · show ([_, _, _] ++ hs.map PyData.str).length + (treeP r (4 + hs.length) (es.map Pt.e)).length ≤ sizeLine
      rw [List.length_append, lt, hl3]
      show 3 + _ + _ ≤ _
      omega
    · have : i = 7 ∨ i = 8 := by simpa using hi
      rcases this with rfl | rfl <;> exact fun hz => by cases hz
    have k1 : WTs 13 [PyData.str x, .str c, .int (((hs.map PyData.str).length : Nat) : Int)] ([x] ++ ([c] ++ ([nT hs.length] ++ []))) := by
      rw [hl3]
      exact .cons (pt := .nme x) (r := 0) (p := 0) hx (show 0 + 1 ≤ 13 by decide) (.cons (pt := .nme c) (r := 0) (p := 0) hc (show 0 + 1 ≤ 13 by decide) (.cons (pt := .n hs.length) (r := 0) (p := 0) (show hs.length < 65536 by omega) (show 0 + 1 ≤ 13 by decide) .nil))
    have k2 := (k1.app (wts_N (by decide) hh)).app (wts_P (d := 13) (r := r) (p := 4 + hs.length) (ps := es.map Pt.e) (fun q hq => by
      obtain ⟨e, hm, rfl⟩ := List.mem_map.mp hq
      exact (he e hm).1) fun q hq => by
      obtain ⟨e, hm, rfl⟩ := List.mem_map.mp hq
      exact Nat.succ_le_succ (he e hm).2)
    refine words_walk (j := 7) k2 [] (show 8 < 9 by decide) ?_ ?_
    · rw [List.length_append, List.length_append]
      show 0 + (3 + _ + _) ≤ 200
      omega
    · have e : [] ++ strsL ([x] ++ ([c] ++ ([nT hs.length] ++ [])) ++ hs ++ wordsP (es.map Pt.e)) = strsL (useW x c hs es) := by
        simp [useW]
      rw [e]
      refine ⟨?_, hQ⟩
      rw [strs_len]
      show 1 + _ ≤ sizeLine
      omega
theorem rows_show {Pc : List D → Prop} : ∀ (rows : List Rw) (k : Nat) (acc : List D) (e0 : EV), (∀ r ∈ rows, MdRw r) → acc.length + rows.length ≤ 100 → Pc (acc ++ strsL (rows.map fun r => lineOf r.words)) →
    mLcL (gNm 1) mYes (mBMt "str" fJoin (mC (.str " ")) (mCons (mCall spRowW (mCons (mVar 1) mNil)) mNil)) [1] (treesFrom k rows) acc [e0, .un] Pc
  | [], k, acc, e0, _, _, hP => by
    have e : acc ++ strsL (([] : List Rw).map fun r => lineOf r.words) = acc := List.append_nil _
    rw [e] at hP
    exact hP
  | r :: rows, k, acc, e0, ho, hl, hP => by
    rw [List.length_cons] at hl
    have big := big_size
    have h1 := ho r List.mem_cons_self
    have h2 := sum_le (B := 13) (ws := r.words) fun z hz => (rw_words h1.1 z hz).2.2.2
    have h3 := h1.2
    refine ⟨rfl, rfl, r, k, rfl, h1, ?_⟩
    dsimp only [mNil, mDats, dats, Option.map, fJoin]
    rw [strs_back]
    refine ⟨?_, rfl, by omega, ?_⟩
    · have : (" " : Str).length = 1 := by decide +kernel
      rw [this]
      omega
    refine rows_show rows (k + 1) (acc ++ [.str (lineOf r.words)]) e0 (fun q hq => ho q (List.mem_cons_of_mem _ hq)) (by rw [List.length_append, List.length_singleton]; omega) ?_
    rw [List.append_assoc, List.singleton_append]
    exact hP
theorem ok_show_module (T : Tb K w mg C) (c_row_words : Cal P w K mg base "row_words" 15 ["row"] 0 spRowW)
    (F : Fun K "show_module" "show_module" s_show_module f fd) : FnG P w K mg base CX0 16 f fd ["tree"] (spD K 0 spShow) := by
  have nd := sc_show_module.nd
  refine okDG (k := 15) F sc_show_module (fun as Q h => by obtain ⟨e, rfl, _⟩ := h; rfl) (fun cdv A fs s H E hr => have hu := hr.rm.units; have hgd := hr.gd; (gss_one (gs_ret (ge_bm PySem.F.plainAttrs_str PySem.F.slot_str_join PySem.F.type_str_join md_join ge_str (ga_cons (ge_pub (gf_lc 0 rfl nd (gi_tup (ge_var 0)) (blkOk_by (own := [("row", 1)]) (N := N_show_module) (sc := defScope s_show_module) (by decide +kernel)) (fun _ _ _ _ _ => (gg_name (i := 1) (vs := (List.map (·.2) ([("row", 1)] : List (Str × Nat)))) nd rfl (.inl rfl) (by decide))) (fun _ _ _ _ _ => gts_nil) (fun _ _ _ _ _ => (ge_bm PySem.F.plainAttrs_str PySem.F.slot_str_join PySem.F.type_str_join md_join ge_str (ga_cons (ge_cal c_row_words (hr.mono (by first | decide | omega)) (by rfl) (ga_cons (ge_var 1) ga_nil)) ga_nil))))) ga_nil))))) (by decide) (fun as Q h => ?_)
  obtain ⟨rows, rfl, hr, hQ⟩ := h
  have big := big_size
  have hl := hr.1
  refine ⟨rfl, ?_, fun i hi w c => ?_, ?_⟩
  · rw [Nat.mul_comm]
    exact Nat.le_of_eq (Nat.zero_mul _)
  · have : i = 1 := List.mem_singleton.mp hi
    subst this
    exact fun hz => by cases hz
  refine rows_show rows 0 [] _ hr.2.1 (by rw [List.length_nil]; omega) ?_
  rw [List.nil_append]
  dsimp only [mNil, mDats, dats, Option.map, fJoin]
  rw [strs_back]
  refine ⟨?_, hQ⟩
  have h1 := sum_le (B := 2800) (ws := rows.map fun r => lineOf r.words) fun z hz => by
    obtain ⟨r, hm, rfl⟩ := List.mem_map.mp hz
    have h1 := line_len (rw_words (hr.2.1 r hm).1)
    have h2 := (hr.2.1 r hm).2
    omega
  have : ("\n" : Str).length = 1 := by decide +kernel
  rw [this]
  rw [List.length_map] at h1 ⊢
  omega
end
end L05
namespace L05
open PySem PySem.Spec PyProof.Rows L2 DL
/-! ### a text tells its rows; a tree tells its text -/
theorem two_inj : ∀ a b : _root_.Fin 7, twoS a = twoS b → a = b := by decide +kernel
theorem two_no : ∀ o : _root_.Fin 7, twoS o ≠ "num" ∧ twoS o ≠ "not" ∧ twoS o ≠ "pick" ∧ twoS o ≠ "cut" ∧ twoS o ≠ "bit" := by decide +kernel
theorem ex_eq {a b : Ex} (ha : a.isNm = false) (hb : b.isNm = false) (hw : a.word = b.word) (hp : a.parts = b.parts) : a = b := by
  cases a with
  | nm t => cases ha
  | num w k => cases b <;> simp_all [Ex.parts, Ex.isNm]
  | not x =>
    cases b with
    | not y => simp_all [Ex.parts]
    | _ => simp_all [Ex.parts, Ex.isNm]
  | pick x y z => cases b <;> simp_all [Ex.parts, Ex.isNm]
  | cut w x =>
    cases b with
    | cut v y => simp_all [Ex.parts]
    | bit k y => exact absurd hw (show ("cut" : Str) ≠ "bit" by decide +kernel)
    | _ => simp_all [Ex.parts, Ex.isNm]
  | bit w x =>
    cases b with
    | bit v y => simp_all [Ex.parts]
    | cut k y => exact absurd hw (show ("bit" : Str) ≠ "cut" by decide +kernel)
    | _ => simp_all [Ex.parts, Ex.isNm]
  | two o x y =>
    cases b with
    | two q s t =>
      have := two_inj o q hw
      simp_all [Ex.parts]
    | _ => simp_all [Ex.parts, Ex.isNm]
def InjN (n : Nat) : Prop := ∀ (a b : Ex) (u v : List Str), a.dep ≤ n → a.ok → b.ok → a.words ++ u = b.words ++ v → a = b ∧ u = v
theorem pt_inj {n c : Nat} (ih : InjN n) {p q : Pt} {u v : List Str} (h1 : KOk c p) (h2 : KOk c q) (hd : p.dep ≤ n) (h : p.words ++ u = q.words ++ v) : p = q ∧ u = v := by
  cases p with
  | n k =>
    cases q with
    | n j =>
      have hk : k < 100000 := by rcases h1 with ⟨_, _, h⟩ | ⟨_, h⟩ <;> omega
      have hj : j < 100000 := by rcases h2 with ⟨_, _, h⟩ | ⟨_, h⟩ <;> omega
      simp only [Pt.words, List.cons_append, List.nil_append, List.cons.injEq] at h
      have := nT_reads hk
      rw [h.1, nT_reads hj] at this
      have e : j = k := by
        have := Option.some.inj this
        omega
      exact ⟨by rw [e], h.2⟩
    | e x => have := h2.1; rcases h1 with ⟨e, _⟩ | ⟨e, _⟩ <;> omega
    | nme x => have := h2.1; rcases h1 with ⟨e, _⟩ | ⟨e, _⟩ <;> omega
    | ref x => have := h2.1; rcases h1 with ⟨e, _⟩ | ⟨e, _⟩ <;> omega
  | e x =>
    cases q with
    | e y =>
      obtain ⟨r1, r2⟩ := ih x y u v hd h1.2 h2.2 h
      exact ⟨by rw [r1], r2⟩
    | n k => have := h1.1; rcases h2 with ⟨e, _⟩ | ⟨e, _⟩ <;> omega
    | nme z => have := h1.1; have := h2.1; omega
    | ref z => have := h1.1; have := h2.1; omega
  | nme x =>
    cases q with
    | nme y =>
      simp only [Pt.words, List.cons_append, List.nil_append, List.cons.injEq] at h
      exact ⟨by rw [h.1], h.2⟩
    | n k => have := h1.1; rcases h2 with ⟨e, _⟩ | ⟨e, _⟩ <;> omega
    | e z => have := h1.1; have := h2.1; omega
    | ref z => have := h1.1; have := h2.1; omega
  | ref x =>
    cases q with
    | ref y =>
      simp only [Pt.words, List.cons_append, List.nil_append, List.cons.injEq] at h
      exact ⟨by rw [h.1], h.2⟩
    | n k => have := h1.1; rcases h2 with ⟨e, _⟩ | ⟨e, _⟩ <;> omega
    | e z => have := h1.1; have := h2.1; omega
    | nme z => have := h1.1; have := h2.1; omega
theorem ks_inj {n : Nat} (ih : InjN n) : ∀ {cs : List Nat} {ps qs : List Pt} {u v : List Str}, KsOk cs ps → KsOk cs qs → (∀ p ∈ ps, p.dep ≤ n) → wordsP ps ++ u = wordsP qs ++ v → ps = qs ∧ u = v
  | [], [], [], u, v, _, _, _, h => ⟨rfl, h⟩
  | [], _ :: _, _, _, _, h1, _, _, _ => h1.elim
  | [], [], _ :: _, _, _, _, h2, _, _ => h2.elim
  | _ :: _, [], _, _, _, h1, _, _, _ => h1.elim
  | _ :: _, _ :: _, [], _, _, _, h2, _, _ => h2.elim
  | c :: cs, p :: ps, q :: qs, u, v, h1, h2, hd, h => by
    rw [wordsP_cons, wordsP_cons, List.append_assoc, List.append_assoc] at h
    obtain ⟨r1, r2⟩ := pt_inj ih h1.1 h2.1 (hd p List.mem_cons_self) h
    obtain ⟨r3, r4⟩ := ks_inj ih h1.2 h2.2 (fun z hz => hd z (List.mem_cons_of_mem _ hz)) r2
    exact ⟨by rw [r1, r3], r4⟩
theorem ex_inj : ∀ n, InjN n
  | 0, a, b, u, v, hd, _, _, _ => absurd a.dep_pos (by omega)
  | n + 1, a, b, u, v, hd, ha, hb, h => by
    cases na : a.isNm with
    | true =>
      cases a with
      | nm t =>
        cases nb : b.isNm with
        | true =>
          cases b with
          | nm s =>
            simp only [Ex.words, List.cons_append, List.nil_append, List.cons.injEq] at h
            exact ⟨by rw [h.1], h.2⟩
          | _ => cases nb
        | false =>
          obtain ⟨sh, e, _⟩ := ex_shape nb hb
          rw [Ex.words_eq nb] at h
          simp only [Ex.words, List.cons_append, List.nil_append, List.cons.injEq] at h
          rw [← h.1, tn_expr ha] at e
          cases e
      | _ => cases na
    | false =>
      obtain ⟨sh, e1, k1, d1⟩ := ex_shape na ha
      rw [Ex.words_eq na] at h
      cases nb : b.isNm with
      | true =>
        cases b with
        | nm s =>
          simp only [Ex.words, List.cons_append, List.nil_append, List.cons.injEq] at h
          rw [h.1, tn_expr hb] at e1
          cases e1
        | _ => cases nb
      | false =>
        obtain ⟨sh2, e2, k2, _⟩ := ex_shape nb hb
        rw [Ex.words_eq nb] at h
        simp only [List.cons_append, List.cons.injEq] at h
        rw [h.1, e2] at e1
        cases e1
        obtain ⟨r1, r2⟩ := ks_inj (ex_inj n) k1 k2 (fun p hp => by have := d1 p hp; omega) h.2
        exact ⟨ex_eq na nb h.1 r1, r2⟩
theorem es_inj : ∀ {es fs : List Ex}, (∀ e ∈ es, e.ok) → (∀ e ∈ fs, e.ok) → wordsP (es.map Pt.e) = wordsP (fs.map Pt.e) → es = fs
  | [], [], _, _, _ => rfl
  | [], f :: fs, _, _, h => by
    rw [List.map_cons, wordsP_cons] at h
    have l1 := congrArg List.length h
    have l2 := f.wlen.1
    have l3 : (Pt.e f).words.length = f.words.length := rfl
    have l4 : (wordsP (([] : List Ex).map Pt.e)).length = 0 := rfl
    rw [List.length_append] at l1
    omega
  | e :: es, [], _, _, h => by
    rw [List.map_cons, wordsP_cons] at h
    have l1 := congrArg List.length h
    have l2 := e.wlen.1
    have l3 : (Pt.e e).words.length = e.words.length := rfl
    have l4 : (wordsP (([] : List Ex).map Pt.e)).length = 0 := rfl
    rw [List.length_append] at l1
    omega
  | e :: es, f :: fs, h1, h2, h => by
    rw [List.map_cons, List.map_cons, wordsP_cons, wordsP_cons] at h
    obtain ⟨r1, r2⟩ := ex_inj e.dep e f _ _ (Nat.le_refl _) (h1 e List.mem_cons_self) (h2 f List.mem_cons_self) h
    rw [r1, es_inj (fun x hx => h1 x (List.mem_cons_of_mem _ hx)) (fun x hx => h2 x (List.mem_cons_of_mem _ hx)) r2]
theorem rw_inj {a b : Rw} (ha : a.ok) (hb : b.ok) (h : a.words = b.words) : a = b := by
  cases a with
  | prt wd ps =>
    obtain ⟨sh, l1, u1, k1, _, d1⟩ := ha
    cases b with
    | prt wd2 qs =>
      obtain ⟨sh2, l2, u2, k2, _, d2⟩ := hb
      simp only [Rw.words, List.cons.injEq] at h
      rw [h.1, l2] at l1
      cases l1
      obtain ⟨r1, _⟩ := ks_inj (u := []) (v := []) (ex_inj 12) k1 k2 d1 (by rw [h.2])
      rw [h.1, r1]
    | use x c hs es =>
      simp only [Rw.words, List.cons.injEq] at h
      exact absurd h.1 u1
  | use x c hs es =>
    cases b with
    | prt wd2 qs =>
      simp only [Rw.words, List.cons.injEq] at h
      exact absurd h.1.symm hb.choose_spec.2.1
    | use x2 c2 gs fs =>
      simp only [Rw.words, useW, List.cons.injEq, true_and] at h
      obtain ⟨e1, e2, e3, e4⟩ := h
      have l1 := ha.2.2.2.1
      have l2 := hb.2.2.2.1
      have hl : hs.length = gs.length := by
        have := nT_reads (k := hs.length) (by omega)
        rw [e3, nT_reads (by omega)] at this
        have := Option.some.inj this
        omega
      obtain ⟨r1, r2⟩ := List.append_inj e4 hl
      rw [e1, e2, r1, es_inj (fun e he => (ha.2.2.2.2.2 e he).1) (fun e he => (hb.2.2.2.2.2 e he).1) r2]
theorem text_inj {a b : List Rw} (ha : RowsOk a) (hb : RowsOk b) (h : textOf a = textOf b) : a = b := by
  by_cases na : a = []
  · subst na
    by_cases nb : b = []
    · exact nb.symm
    · have e : textOf [] = "" := by decide +kernel
      exact absurd (h.symm.trans e) (text_ne hb nb)
  · by_cases nb : b = []
    · subst nb
      have e : textOf [] = "" := by decide +kernel
      exact absurd (h.trans e) (text_ne ha na)
    · have s1 := text_split ha na
      rw [h, text_split hb nb] at s1
      have key : ∀ (xs ys : List Rw), (∀ r ∈ xs, r.ok) → (∀ r ∈ ys, r.ok) → ys.map (fun r => lineOf r.words) = xs.map (fun r => lineOf r.words) → xs = ys := by
        intro xs
        induction xs with
        | nil =>
          intro ys _ _ z
          simpa using z.symm
        | cons x xs ih =>
          intro ys h1 h2 z
          cases ys with
          | nil => simp at z
          | cons y ys =>
            simp only [List.map_cons, List.cons.injEq] at z
            have w1 := line_split (rw_words (h1 x List.mem_cons_self)) (rw_ne x)
            have w2 := line_split (rw_words (h2 y List.mem_cons_self)) (rw_ne y)
            rw [← z.1, w2] at w1
            rw [rw_inj (h1 x List.mem_cons_self) (h2 y List.mem_cons_self) w1.symm, ih ys (fun r hr => h1 r (List.mem_cons_of_mem _ hr)) (fun r hr => h2 r (List.mem_cons_of_mem _ hr)) z.2]
      exact key a b (fun r hr => (ha.2.1 r hr).1) (fun r hr => (hb.2.1 r hr).1) s1
/-! a tree's words -/
def comb : List D → List (List Str) → List Str
  | .str w :: _, _ :: _ :: ls => if w = "name" then ls.flatten else w :: ls.flatten
  | _, _ => []
mutual
def wdD : D → List Str
  | .tuple xs => comb xs (wdL xs)
  | .int k => [numT k]
  | .str z => [z]
  | _ => []
def wdL : List D → List (List Str)
  | [] => []
  | x :: xs => wdD x :: wdL xs
end
theorem wd_ex (r : Nat) : ∀ (e : Ex) (p : Nat), wdD (e.tree r p) = e.words := by
  intro e
  induction e with
  | num w k => intro p; simp [Ex.tree, wdD, wdL, comb, Ex.words, nT, (by decide +kernel : ("num" : Str) ≠ "name")]
  | nm t => intro p; simp [Ex.tree, wdD, wdL, comb, Ex.words]
  | not a ih => intro p; simp [Ex.tree, wdD, wdL, comb, Ex.words, ih, (by decide +kernel : ("not" : Str) ≠ "name")]
  | pick a b c i1 i2 i3 => intro p; simp [Ex.tree, wdD, wdL, comb, Ex.words, i1, i2, i3, (by decide +kernel : ("pick" : Str) ≠ "name")]
  | cut w a ih => intro p; simp [Ex.tree, wdD, wdL, comb, Ex.words, ih, nT, (by decide +kernel : ("cut" : Str) ≠ "name")]
  | bit w a ih => intro p; simp [Ex.tree, wdD, wdL, comb, Ex.words, ih, nT, (by decide +kernel : ("bit" : Str) ≠ "name")]
  | two o a b i1 i2 => intro p; simp [Ex.tree, wdD, wdL, comb, Ex.words, i1, i2, word_name (.two o a b) rfl, show twoS o ≠ "name" from word_name (.two o a b) rfl]
theorem wd_pt (r p : Nat) (x : Pt) : wdD (x.tree r p) = x.words := by
  cases x with
  | e y => exact wd_ex r y p
  | n k => rfl
  | nme z => rfl
  | ref z => exact wd_ex r (.nm z) p
theorem wd_P (r : Nat) : ∀ (ps : List Pt) (p : Nat), (wdL (treeP r p ps)).flatten = wordsP ps
  | [], _ => rfl
  | x :: ps, p => by rw [treeP, wdL, List.flatten_cons, wd_P r ps, wd_pt, wordsP_cons]
theorem wd_N : ∀ hs : List Str, (wdL (hs.map PyData.str)).flatten = hs
  | [] => rfl
  | z :: hs => by rw [List.map_cons, wdL, List.flatten_cons, wd_N hs]; rfl
def wdR : D → List Str
  | .tuple [.str w, .str x, .str c, .tuple hs, .tuple es] => if w = "use" then w :: x :: c :: nT hs.length :: ((wdL hs).flatten ++ (wdL es).flatten) else w :: x :: c :: (comb' [.tuple hs, .tuple es])
  | .tuple (.str w :: xs) => w :: comb' xs
  | _ => []
where comb' (xs : List D) : List Str := (wdL xs).flatten
theorem wd_row {rw : Rw} (r : Nat) (h : rw.ok) : wdR (rw.tree r) = rw.words := by
  cases rw with
  | use x c hs es => simp [Rw.tree, wdR, Rw.words, useW, wd_N, wd_P]
  | prt wd ps =>
    obtain ⟨_, _, u, _⟩ := h
    have e := wd_P r ps 1
    show wdR (.tuple (.str wd :: treeP r 1 ps)) = wd :: wordsP ps
    rw [← e]
    unfold wdR
    split
    · rename_i heq
      simp only [PyData.tuple.injEq, List.cons.injEq, PyData.str.injEq] at heq
      obtain ⟨rfl, heq⟩ := heq
      rw [if_neg u, heq]
      rfl
    · rename_i heq
      simp only [PyData.tuple.injEq, List.cons.injEq, PyData.str.injEq] at heq
      obtain ⟨rfl, rfl⟩ := heq
      rfl
    · rename_i h2
      exact absurd rfl (h2 _ _)
theorem wd_rows : ∀ (rows : List Rw) (k : Nat), (∀ r ∈ rows, r.ok) → (treesFrom k rows).map wdR = rows.map Rw.words
  | [], _, _ => rfl
  | r :: rows, k, h => by rw [treesFrom, List.map_cons, List.map_cons, wd_row k (h r List.mem_cons_self), wd_rows rows (k + 1) fun q hq => h q (List.mem_cons_of_mem _ hq)]
theorem tree_text {a b : List Rw} (ha : RowsOk a) (hb : RowsOk b) (h : treeD a = treeD b) : textOf a = textOf b := by
  have e : treesFrom 0 a = treesFrom 0 b := by simpa [treeD] using h
  have w := congrArg (List.map wdR) e
  rw [wd_rows a 0 fun r hr => (ha.2.1 r hr).1, wd_rows b 0 fun r hr => (hb.2.1 r hr).1] at w
  unfold textOf
  have f : ∀ rows : List Rw, (rows.map fun r => lineOf r.words) = (rows.map Rw.words).map lineOf := fun rows => by rw [List.map_map]; rfl
  rw [f, f, w]
/-! trees are plain -/
theorem pl_ex (r : Nat) : ∀ (e : Ex) (p : Nat), plainD (e.tree r p) = true := by
  intro e
  induction e with
  | num w k => intro p; rfl
  | nm t => intro p; rfl
  | not a ih => intro p; simp [Ex.tree, plainD, plainA, placeD, ih]
  | pick a b c i1 i2 i3 => intro p; simp [Ex.tree, plainD, plainA, placeD, i1, i2, i3]
  | cut w a ih => intro p; simp [Ex.tree, plainD, plainA, placeD, ih]
  | bit w a ih => intro p; simp [Ex.tree, plainD, plainA, placeD, ih]
  | two o a b i1 i2 => intro p; simp [Ex.tree, plainD, plainA, placeD, i1, i2]
theorem pl_pt (r p : Nat) (x : Pt) : plainD (x.tree r p) = true := by
  cases x with
  | e y => exact pl_ex r y p
  | n k => rfl
  | nme z => rfl
  | ref z => rfl
theorem pl_P (r : Nat) : ∀ (ps : List Pt) (p : Nat), plainA (treeP r p ps) = true
  | [], _ => rfl
  | x :: ps, p => by rw [treeP, plainA, pl_pt, pl_P r ps]; rfl
theorem pl_row (r : Nat) (rw : Rw) : plainD (rw.tree r) = true := by
  cases rw with
  | prt wd ps => simp [Rw.tree, plainD, plainA, pl_P]
  | use x c hs es =>
    have := plainA_map (f := PyData.str) (l := hs) fun _ _ => rfl
    simp [Rw.tree, plainD, plainA, pl_P, this]
theorem pl_rows : ∀ (rows : List Rw) (k : Nat), plainA (treesFrom k rows) = true
  | [], _ => rfl
  | r :: rows, k => by rw [treesFrom, plainA, pl_row, pl_rows rows]; rfl
theorem tree_eqv {a b : List Rw} (ha : RowsOk a) (hb : RowsOk b) : PyData.eqv (treeD a) (treeD b) = decide (textOf a = textOf b) := by
  by_cases h : textOf a = textOf b
  · rw [decide_eq_true h, text_inj ha hb h]
    exact (rows_bk hb).self
  · rw [decide_eq_false h]
    cases e : PyData.eqv (treeD a) (treeD b) with
    | false => rfl
    | true => exact absurd (tree_text ha hb (eqv_plain _ _ (by simpa [treeD, plainD] using pl_rows a 0) (by simpa [treeD, plainD] using pl_rows b 0) e)) h
end L05
namespace L05
open PySem PySem.Spec PyProof.Rows L2 DL
theorem var_by {i : Nat} {env : DEnv} {x : D} {Pd : D → DEnv → Prop} (h : env[i]? = some (.d x)) (p : Pd x env) : mVar i env Pd := by
  unfold mVar
  rw [h]
  exact p
def exRows : List Rw := [.prt "clock" [.nme "c"], .prt "in" [.nme "x", .n 8, .nme "c"]]
theorem nm_x : NmOk "x" := by unfold NmOk; decide +kernel
theorem nm_c : NmOk "c" := by unfold NmOk; decide +kernel
theorem ex_rows : RowsOk exRows := by
  refine ⟨by decide, fun r hr => ?_, by decide +kernel⟩
  simp only [exRows, List.mem_cons, List.not_mem_nil, or_false] at hr
  rcases hr with rfl | rfl
  · exact md_clock nm_c
  · exact md_in nm_x nm_c (by decide) (by decide)
theorem ex_text : ("clock c\nin x 8 c" : Str) = textOf exRows := by decide +kernel
theorem no_rows : RowsOk [] := ⟨by decide, (fun r hr => by cases hr), by decide⟩
theorem no_text : ("" : Str) = textOf [] := by decide +kernel
theorem sum_words {B : Nat} : ∀ {rows : List Rw}, (∀ r ∈ rows, r.words.length ≤ B) → (rows.map fun r => r.words.length).sum ≤ rows.length * B
  | [], _ => by simp
  | w :: ws, h => by
    have h1 := h w List.mem_cons_self
    have h2 := sum_words (rows := ws) fun z hz => h z (List.mem_cons_of_mem _ hz)
    rw [List.map_cons, List.sum_cons, List.length_cons, Nat.add_mul, Nat.one_mul]
    omega
theorem ok_drawn {rows : List Rw} (hl : rows.length ≤ 12) (hm : ∀ r ∈ rows, MdRw r) : RowsOk rows := by
  refine ⟨by omega, hm, ?_⟩
  have := sum_words (B := 200) fun r hr => (hm r hr).2
  omega
def clockRw (z : Str) : Rw := .prt "clock" [.nme z]
def wireRw (x : Str) : Rw := .prt "wire" [.nme x, .n 1, .e (.num 1 0)]
theorem ok_short {zs : List Str} {x : Str} (hl : zs.length = 60) (hz : ∀ z ∈ zs, NmOk z) (hx : NmOk x) : RowsOk (zs.map clockRw ++ List.replicate 40 (wireRw x)) := by
  have hm : ∀ r ∈ zs.map clockRw ++ List.replicate 40 (wireRw x), MdRw r ∧ r.words.length ≤ 6 := fun r hr => by
    rcases List.mem_append.mp hr with hr | hr
    · obtain ⟨z, hm, rfl⟩ := List.mem_map.mp hr
      exact ⟨md_clock (hz z hm), by simp [clockRw, Rw.words, wordsP, Pt.words]⟩
    · rw [(List.mem_replicate.mp hr).2]
      exact ⟨md_wire hx (by decide) (by decide) ⟨⟨by decide, by decide, by decide⟩, by simp [Ex.dep], by simp [Ex.ops]⟩, by simp [wireRw, Rw.words, wordsP, Pt.words, Ex.words]⟩
  refine ⟨by simp [hl], fun r hr => (hm r hr).1, ?_⟩
  have := sum_words (B := 6) fun r hr => (hm r hr).2
  rw [List.length_append, List.length_map, List.length_replicate, hl] at this
  omega
def pairD (rows : List Rw) : D := .tuple [.str (textOf rows), treeD rows]
def PairOk (y : D) : Prop := ∃ rows : List Rw, RowsOk rows ∧ y = pairD rows
section
variable {P : Program} {w : World} {K : PySem.W.Frag} {mg : Str → Option Value} {base : Heap} {C : Addr} {f : Addr} {fd : FuncData}
theorem ok_law (T : Tb K w mg C) {fD : Addr} {fdD : FuncData} (FD : FnG P w K mg base CX0 1 fD fdD ["_law_script"] (spDeck K)) (gD : mg "_law_deck" = some (.ref fD)) (kD : PySem.W.keepIn K (.ref fD) = true) (bD : Binds K fdD ["_law_script"] [])
    (c_law_draw : Cal P w K mg base "_law_draw" 1 ["_law_deck_here", "_law_sides"] 1 spDraw) (c_law_name : Cal P w K mg base "_law_name" 3 ["_law_deck_here"] 20 spName) (c_law_module : Cal P w K mg base "_law_module" 18 ["_law_deck_here", "_law_most", "_law_deep"] (14 * rC + 10) spModule) (c_law_both : Cal P w K mg base "_law_both" 15 ["_law_made"] 0 spBoth)
    (c_read_module : Cal P w K mg base "read_module" 32 ["text"] 0 spRead) (c_show_module : Cal P w K mg base "show_module" 16 ["tree"] 0 spShow) (c_show_moduleK : CalK P w K mg base "show_module" 16 ["tree"] 0 spShow)
    (F : Fun K "law" "law" s_law f fd) : FnG P w K mg base CX0 34 f fd ["_law_script"] (spLaw K) := by
  have nd := sc_law.nd
  refine Fun.okG (k := 33) F sc_law (fun vs H Q E h => by obtain ⟨a, ns, rfl, _⟩ := h; rfl) (fun cdv A fs s H vs Q E hr h => ?_)
  obtain ⟨a, ns, rfl, hS, hl, hb, hQ⟩ := h
  have hu := hr.rm.units
  have hgd := hr.gd
  refine ⟨_, PSs.nox (pss_cons (ps_set (i := 1) nd rfl (.inr rfl) (pe_callG FD (hr.mono (by decide)) (by rfl) gD kD bD .nil pass0 (pa_cons (pv 0) pa_nil))) ((gss_cons (gs_setLc (60 * rC + 100) (i := 2) rfl nd rfl rfl (sw_true rfl rfl rfl (by decide +kernel)) (gi_range1 (by rfl) T.n_range (ga_cons ge_int ga_nil)) (blkOk_by (own := [("_law_turn", 10)]) (N := N_law) (sc := defScope s_law) (by decide +kernel)) (fun _ _ _ _ _ => (gg_name (i := 10) (vs := (List.map (·.2) ([("_law_turn", 10)] : List (Str × Nat)))) nd rfl (.inl rfl) (by decide))) (fun _ _ _ _ _ => gts_nil) (fun _ _ _ _ _ => (ge_cal c_law_both (hr.mono (by first | decide | omega)) (by rfl) (ga_cons (ge_cal c_law_module (hr.mono (by first | decide | omega)) (by rfl) (ga_hd 1 (ga_cons ge_int (ga_cons (ge_ix od_ix (ge_lst (ga_cons ge_int (ga_cons ge_int (ga_cons ge_int ga_nil)))) (ge_cal c_law_draw (hr.mono (by first | decide | omega)) (by rfl) (ga_hd 1 (ga_cons ge_int ga_nil))) (fun _ _ => rfl)) ga_nil)))) ga_nil))))
      (gss_cons (gs_set (i := 3) nd rfl (.inl rfl) (ge_op od_add (ge_pub (gf_lc 2000 rfl nd (gi_range1 (by rfl) T.n_range (ga_cons ge_int ga_nil)) (blkOk_by (own := [("_law_k", 11)]) (N := N_law) (sc := defScope s_law) (by decide +kernel)) (fun _ _ _ _ _ => (gg_name (i := 11) (vs := (List.map (·.2) ([("_law_k", 11)] : List (Str × Nat)))) nd rfl (.inl rfl) (by decide))) (fun _ _ _ _ _ => gts_nil) (fun _ _ _ _ _ => (ge_tup (ga_cons ge_str (ga_cons (ge_cal c_law_name (hr.mono (by first | decide | omega)) (by rfl) (ga_hd 1 ga_nil)) ga_nil)))))) (ge_op od_mul (ge_lst (ga_cons (ge_tup (ga_cons ge_str (ga_cons (ge_cal c_law_name (hr.mono (by first | decide | omega)) (by rfl) (ga_hd 1 ga_nil)) (ga_cons ge_int (ga_cons (ge_tup (ga_cons ge_str (ga_cons ge_int (ga_cons ge_int ga_nil)))) ga_nil))))) ga_nil)) ge_int)))
      (gss_cons (gs_append (i := 2) rfl (.inl rfl) (ge_cal c_law_both (hr.mono (by first | decide | omega)) (by rfl) (ga_cons (ge_var 3) ga_nil)))
      (gss_cons (gs_pub 2 (gs_forC 0 PassesOwn.never rfl (gi_list (ge_op od_add (ge_var 2) (ge_revL (ge_var 2)))) (gg_tup (n := 2) rfl (ggs_cons (i := 4) (vs := [4, 5]) nd rfl (.inl rfl) (by decide) (ggs_cons (i := 5) (vs := [4, 5]) nd rfl (.inl rfl) (by decide) ggs_nil))) (gss_cons (gs_par rfl nd (i := 6) (j := 7) rfl rfl (by decide) rfl rfl (ga_cons (ge_callB (cd_reprX hgd hu) (by rfl) T.n_repr boot_repr (ga_cons (ge_var 5) ga_nil)) (ga_cons (ge_cal c_read_module (hr.mono (by first | decide | omega)) (by rfl) (ga_cons (ge_var 4) ga_nil)) ga_nil)) (by rfl))
      (gss_cons (gs_if (PW.pt (gt_or (gt_cmp (od_ne hu) (ge_callB (cd_reprX hgd hu) (by rfl) T.n_repr boot_repr (ga_cons (ge_var 7) ga_nil)) (ge_var 6) (nomark _)) (gt_or (gt_cmp (od_ne hu) (ge_cal c_show_module (hr.mono (by first | decide | omega)) (by rfl) (ga_cons (ge_var 7) ga_nil)) (ge_var 4) (nomark _)) (pw_or1 (gt_cmp (od_ne hu) (ge_calK c_show_moduleK (hr.mono (by first | decide | omega)) (by rfl) (gk_cons (ge_var 7) gk_nil)) (ge_var 4) (nomark _)))))) (gss_one (gs_ret ge_bl)) gss_nil)
      (gss_one (gs_if (gt_cmp (od_ne hu) (ge_callB (cd_reprX hgd hu) (by rfl) T.n_repr boot_repr (ga_cons (ge_cal c_read_module (hr.mono (by first | decide | omega)) (by rfl) (ga_cons (ge_cal c_show_module (hr.mono (by first | decide | omega)) (by rfl) (ga_cons (ge_var 7) ga_nil)) ga_nil)) ga_nil)) (ge_var 6) (nomark _)) (gss_one (gs_ret ge_bl)) gss_nil))))))
      (gss_cons (gs_forC 0 PassesOwn.never rfl (gi_list (ge_var 2)) (gg_tup (n := 2) rfl (ggs_cons (i := 4) (vs := [4, 5]) nd rfl (.inl rfl) (by decide) (ggs_cons (i := 5) (vs := [4, 5]) nd rfl (.inl rfl) (by decide) ggs_nil))) (gss_one (gs_forC 0 PassesOwn.never rfl (gi_list (ge_var 2)) (gg_tup (n := 2) rfl (ggs_cons (i := 8) (vs := [8, 9]) nd rfl (.inl rfl) (by decide) (ggs_cons (i := 9) (vs := [8, 9]) nd rfl (.inl rfl) (by decide) ggs_nil))) (gss_one (gs_if (gt_cmp (od_ne hu) (ge_cmp (od_eq hu) (ge_var 4) (ge_var 8) (nomark _)) (ge_cmp (od_eq hu) (ge_cal c_read_module (hr.mono (by first | decide | omega)) (by rfl) (ga_cons (ge_var 4) ga_nil)) (ge_cal c_read_module (hr.mono (by first | decide | omega)) (by rfl) (ga_cons (ge_var 8) ga_nil)) (nomark _)) (nomark _)) (gss_one (gs_ret ge_bl)) gss_nil)))))
      (gss_one (gs_ret (ge_andV (ge_cmp (od_eq hu) (ge_cal c_show_module (hr.mono (by first | decide | omega)) (by rfl) (ga_cons (ge_tup ga_nil) ga_nil)) ge_str (nomark _)) (pe_one (ge_cmp (od_eq hu) (ge_cal c_show_module (hr.mono (by first | decide | omega)) (by rfl) (ga_cons (ge_tup (ga_cons (ge_tup (ga_cons ge_str (ga_cons ge_str ga_nil))) (ga_cons (ge_tup (ga_cons ge_str (ga_cons ge_str (ga_cons ge_int (ga_cons ge_str ga_nil))))) ga_nil))) ga_nil)) ge_str (nomark _))))))))))))), ?_⟩
  refine ⟨_, rfl, a, ns, rfl, hS, hl, hb, fun H' dk c sm n1 n2 inv => ?_⟩
  refine ⟨.of (some (dk, c)), 0, _, _, _, _, { nx := fun _ => False, rt := fun x _ => x = .bool true }, rel_deck (m := 10) inv (ct_big (by decide +kernel)), ?_, fun _ _ _ _ z => z.elim, fun x _ _ v G' H'' z _ _ d => ?_, fun _ _ _ _ z => z.elim, fun _ _ _ _ z => z.elim⟩
  · have big := big_size
    refine ⟨by decide, by decide, ?_, fun i hi w c => ?_, ?_⟩
    · rw [rangeD_len]
      exact Nat.le_trans (Nat.mul_le_mul (show (3 : Int).toNat ≤ 3 by decide) (Nat.le_refl _)) (by omega)
    · have : i = 10 := List.mem_singleton.mp hi
      subst this
      exact fun hz => by cases hz
    refine lcl_any PairOk _ _ (fun y hy k hk => ?_) ?_ fun ys h1 h2 => ?_
    · refine ⟨rfl, (show (3 : Nat) ≤ sizeLine by decide), 3, rfl, by decide, by decide, fun d d0 d1 => ?_⟩
      obtain ⟨deep, ed, h1, h2⟩ : ∃ deep : Nat, atI [PyData.int 3, .int 6, .int 12] d = some (.int (deep : Int)) ∧ 1 ≤ deep ∧ deep ≤ 12 := by
        have hd : d = 0 ∨ d = 1 ∨ d = 2 := by omega
        rcases hd with rfl | rfl | rfl
        · exact ⟨3, rfl, by decide, by decide⟩
        · exact ⟨6, rfl, by decide, by decide⟩
        · exact ⟨12, rfl, by decide, by decide⟩
      refine ⟨_, ed, deep, rfl, h1, h2, fun rows hl8 hm => ?_⟩
      have hro := ok_drawn hl8 hm
      exact ⟨rows, rfl, hro, rfl, hk _ ⟨rows, hro, rfl⟩⟩
    · rw [rangeD_len, List.length_nil]
      show 0 + 3 ≤ sizeLine
      omega
    rw [rangeD_len] at h1
    have h1 : ys.length = 3 := h1
    rw [List.nil_append]
    refine ⟨by decide, by decide, ?_, fun i hi w c => ?_, ?_⟩
    · rw [rangeD_len]
      exact Nat.le_trans (Nat.mul_le_mul (show (60 : Int).toNat ≤ 60 by decide) (Nat.le_refl _)) (by omega)
    · have : i = 11 := List.mem_singleton.mp hi
      subst this
      exact fun hz => by cases hz
    refine lcl_any (fun y => ∃ z : Str, NmOk z ∧ y = (clockRw z).toD) _ _ (fun y hy k hk => ?_) ?_ fun us u1 u2 => ?_
    · exact ⟨rfl, rfl, fun z hz => ⟨(show (2 : Nat) ≤ sizeLine by decide), rfl, hk _ ⟨z, hz, rfl⟩⟩⟩
    · rw [rangeD_len, List.length_nil]
      show 0 + 60 ≤ sizeLine
      omega
    rw [rangeD_len] at u1
    have u1 : us.length = 60 := u1
    rw [List.nil_append]
    obtain ⟨zs, rfl, hzs⟩ := list_of us u2
    rw [List.length_map] at u1
    refine ⟨rfl, fun x hx => ?_⟩
    refine ⟨(show (3 : Nat) ≤ sizeLine by decide), (show (4 : Nat) ≤ sizeLine by decide), (show (1 : Nat) ≤ sizeLine by decide), ⟨by decide, by decide, (show 1 * 40 ≤ sizeLine by omega)⟩, ?_⟩
    have hsh := ok_short u1 hzs hx
    have esh : (zs.map fun z => (clockRw z).toD) ++ (List.replicate (40 : Int).toNat [(wireRw x).toD]).flatten = (zs.map clockRw ++ List.replicate 40 (wireRw x)).map Rw.toD := by
      rw [List.map_append, List.map_map, List.map_replicate, List.flatten_replicate_singleton]
      rfl
    refine ⟨?_, ⟨_, rfl⟩, _, ?_, hsh, ?_⟩
    · rw [List.length_map, u1]
      show 60 + (List.replicate (40 : Int).toNat [_]).flatten.length ≤ _
      rw [List.flatten_replicate_singleton, List.length_replicate]
      show 60 + 40 ≤ sizeLine
      omega
    · rw [← esh]
      rfl
    have hall : ∀ y ∈ ys ++ [pairD (zs.map clockRw ++ List.replicate 40 (wireRw x))], PairOk y := fun y hy => by
      rcases List.mem_append.mp hy with hy | hy
      · exact h2 y hy
      · rw [List.mem_singleton.mp hy]
        exact ⟨_, hsh, rfl⟩
    have hlen : (ys ++ [pairD (zs.map clockRw ++ List.replicate 40 (wireRw x))]).length = 4 := by rw [List.length_append, h1]; rfl
    refine ⟨(show ys.length < sizeLine by omega), ?_⟩
    have ne : ∀ (Pc : Bool → Prop) (z : Str), Pc false → cNe (.str z) (.str z) Pc := fun Pc z h => by
      show Pc (!decide (z = z))
      rw [decide_eq_true rfl]
      exact h
    refine ⟨?_, ?_, ?_⟩
    · show (ys ++ [pairD (zs.map clockRw ++ List.replicate 40 (wireRw x))]).length + (ys ++ [pairD (zs.map clockRw ++ List.replicate 40 (wireRw x))]).reverse.length ≤ sizeLine
      rw [List.length_reverse]
      omega
    · rw [Nat.mul_comm]
      exact Nat.le_of_eq (Nat.zero_mul _)
    refine sfor_by (fun i env => ∃ e3 e4 e5 e6 e7 e8 e9 e10 e11, env = [.un, .hd, .d (.list (ys ++ [pairD (zs.map clockRw ++ List.replicate 40 (wireRw x))])), e3, e4, e5, e6, e7, e8, e9, e10, e11]) ⟨_, _, _, _, _, _, _, _, _, rfl⟩ (fun i it env N hit hI hN => ?_) fun env hI => ?_
    · obtain ⟨e3, e4, e5, e6, e7, e8, e9, e10, e11, rfl⟩ := hI
      have hm : it ∈ (ys ++ [pairD (zs.map clockRw ++ List.replicate 40 (wireRw x))]) := by
        have := List.mem_of_getElem? hit
        rcases List.mem_append.mp this with h | h
        · exact h
        · exact List.mem_reverse.mp h
      obtain ⟨rows, hro, rfl⟩ := hall it hm
      obtain ⟨r1, r2, r3⟩ := (rows_bk hro).repr (by decide) (by decide)
      refine ⟨rfl, rfl, r1, r2, r3, rows, rfl, hro, ?_⟩
      refine ⟨r1, r2, r3, ?_⟩
      refine var_by rfl ?_
      refine ne _ _ ?_
      refine ⟨rows, rfl, hro, ?_⟩
      refine var_by rfl ?_
      refine ne _ _ ?_
      refine ⟨rows, rfl, hro, ?_⟩
      refine var_by rfl ?_
      refine ne _ _ ?_
      refine ⟨rows, rfl, hro, rows, rfl, hro, r1, r2, r3, ?_⟩
      refine var_by rfl ?_
      refine ne _ _ ?_
      exact hN _ ⟨_, _, _, _, _, _, _, _, _, rfl⟩
    · obtain ⟨e3, e4, e5, e6, e7, e8, e9, e10, e11, rfl⟩ := hI
      refine ⟨?_, ?_⟩
      · rw [Nat.mul_comm]
        exact Nat.le_of_eq (Nat.zero_mul _)
      refine sfor_by (fun i env => ∃ e3 e4 e5 e6 e7 e8 e9 e10 e11, env = [.un, .hd, .d (.list (ys ++ [pairD (zs.map clockRw ++ List.replicate 40 (wireRw x))])), e3, e4, e5, e6, e7, e8, e9, e10, e11]) ⟨_, _, _, _, _, _, _, _, _, rfl⟩ (fun i it env N hit hI hN => ?_) fun env hI => ?_
      · obtain ⟨e3, e4, e5, e6, e7, e8, e9, e10, e11, rfl⟩ := hI
        obtain ⟨rows, hro, rfl⟩ := hall it (List.mem_of_getElem? hit)
        refine ⟨rfl, rfl, ?_, ?_⟩
        · rw [Nat.mul_comm]
          exact Nat.le_of_eq (Nat.zero_mul _)
        refine sfor_by (fun i env => ∃ e3 e6 e7 e8 e9 e10 e11, env = [.un, .hd, .d (.list (ys ++ [pairD (zs.map clockRw ++ List.replicate 40 (wireRw x))])), e3, .d (.str (textOf rows)), .d (treeD rows), e6, e7, e8, e9, e10, e11]) ⟨_, _, _, _, _, _, _, rfl⟩ (fun i y env M hy hI hM => ?_) fun env hI => ?_
        · obtain ⟨e3, e6, e7, e8, e9, e10, e11, rfl⟩ := hI
          obtain ⟨rows2, hro2, rfl⟩ := hall y (List.mem_of_getElem? hy)
          refine ⟨rfl, rfl, rows, rfl, hro, rows2, rfl, hro2, ?_⟩
          refine ⟨(rows_bk hro).ok (by decide), (rows_bk hro2).ok (by decide), ?_⟩
          have hs : ∀ (Pc : Bool → Prop) (b : Bool), Pc false → cNe (.bool b) (.bool b) Pc := fun Pc b h => by
            show Pc (!decide (b = b))
            rw [decide_eq_true rfl]
            exact h
          have hq := tree_eqv hro hro2
          show cNe (.bool (decide (textOf rows = textOf rows2))) (.bool (PyData.eqv (treeD rows) (treeD rows2))) _
          rw [hq]
          refine hs _ _ ?_
          exact hM _ ⟨_, _, _, _, _, _, _, rfl⟩
        · obtain ⟨e3, e6, e7, e8, e9, e10, e11, rfl⟩ := hI
          exact hN _ ⟨_, _, _, _, _, _, _, _, _, rfl⟩
      · obtain ⟨e3, e4, e5, e6, e7, e8, e9, e10, e11, rfl⟩ := hI
        refine ⟨(show (0 : Nat) ≤ sizeLine by decide), [], rfl, no_rows, ?_⟩
        refine ⟨(show (2 : Nat) ≤ sizeLine by decide), (show (4 : Nat) ≤ sizeLine by decide), (show (2 : Nat) ≤ sizeLine by decide), exRows, rfl, ex_rows, ?_⟩
        exact congrArg PyData.bool (by decide +kernel)
  · subst z
    cases dp_bl d
    exact hQ _
end
end L05
namespace L05
open PySem PySem.Spec PyProof.Rows L2 DL
section
variable {P : Program} {w : World} {K : PySem.W.Frag} {h : Heap} {mg : Str → Option Value} {base : Heap}
theorem all_mk {l : PySem.W.OpenLaw} {C : Addr} (X : K.In h) (G : h.Ns mainGlobals mg) {fa : Addr} (hfa : mg "law" = some (.ref fa))
        (DC : DfC K "RowReader" C)
    (z0 : PySem.W.nsIn K mainGlobals "len" = some none)
    (z1 : PySem.W.nsIn K mainGlobals "all" = some none)
    (z2 : PySem.W.nsIn K mainGlobals "isinstance" = some none)
    (z3 : PySem.W.nsIn K mainGlobals "str" = some none)
    (z4 : PySem.W.nsIn K mainGlobals "int" = some none)
    (z5 : PySem.W.nsIn K mainGlobals "range" = some none)
    (z6 : PySem.W.nsIn K mainGlobals "list" = some none)
    (z7 : PySem.W.nsIn K mainGlobals "repr" = some none)
    (z8 : PySem.W.nsIn K mainGlobals "tuple" = some none)
    (z9 : PySem.W.nsIn K mainGlobals "enumerate" = some none)
    (g10 : GlobD K mg "LETTERS" (.str "abcdefghijklmnopqrstuvwxyz"))
    (g11 : GlobD K mg "FIGURES" (.str "0123456789"))
    (g12 : GlobD K mg "LONGEST" (.int 6))
    (g13 : GlobD K mg "NUMBERS" (.int 65536))
    (g14 : GlobD K mg "WIDEST" (.int 8))
    (g15 : GlobD K mg "DEEPEST" (.int 12))
    (g16 : GlobD K mg "MOST_CLOCKS" (.int 4))
    (g17 : GlobD K mg "MOST_HANDED" (.int 6))
    (g18 : GlobD K mg "KEPT" (.tuple [.str "clock", .str "in", .str "out", .str "wire", .str "box", .str "cross", .str "use", .str "num", .str "not", .str "and", .str "or", .str "xor", .str "sum", .str "same", .str "below", .str "pick", .str "join", .str "cut", .str "bit", .str "one"]))
    (g19 : GlobD K mg "LEAVES" (.tuple [.str "num"]))
    (gd20 : GDict K w mg "ROWS" rowsG)
    (gd21 : GDict K w mg "EXPRESSIONS" exprG)
    (f23 : NoAttr K C "row_here")
    (f24 : NoAttr K C "words")
    (f25 : NoAttr K C "taken")
    (d1 : Df K "words_of" s_words_of)
    (d2 : Df K "row_words" s_row_words)
    (d3 : Df K "show_module" s_show_module)
    (d4 : Df K "is_name" s_is_name)
    (d5 : Df K "is_told_name" s_is_told_name)
    (d6 : Df K "number_in" s_number_in)
    (d7 : DfM K C "__init__" "RowReader.__init__" s_RowReader_init)
    (d8 : DfM K C "place_now" "RowReader.place_now" s_RowReader_place_now)
    (d9 : DfM K C "is_at_end" "RowReader.is_at_end" s_RowReader_is_at_end)
    (d10 : DfM K C "must" "RowReader.must" s_RowReader_must)
    (d11 : DfM K C "peeked" "RowReader.peeked" s_RowReader_peeked)
    (d12 : DfM K C "name_taken" "RowReader.name_taken" s_RowReader_name_taken)
    (d13 : DfM K C "number_taken" "RowReader.number_taken" s_RowReader_number_taken)
    (d14 : DfM K C "part_taken" "RowReader.part_taken" s_RowReader_part_taken)
    (d15 : DfM K C "expression_taken" "RowReader.expression_taken" s_RowReader_expression_taken)
    (d16 : DfM K C "use_taken" "RowReader.use_taken" s_RowReader_use_taken)
    (d17 : DfM K C "row_taken" "RowReader.row_taken" s_RowReader_row_taken)
    (d18 : Df K "read_module" s_read_module)
    (d19 : Df K "_law_deck" s_law_deck)
    (d20 : Df K "_law_draw" s_law_draw)
    (d21 : Df K "_law_pick" s_law_pick)
    (d22 : Df K "_law_kept" s_law_kept)
    (d23 : Df K "_law_name" s_law_name)
    (d24 : Df K "_law_shapes" s_law_shapes)
    (d25 : Df K "_law_number" s_law_number)
    (d26 : Df K "_law_expression" s_law_expression)
    (d27 : Df K "_law_row" s_law_row)
    (d28 : Df K "_law_laid_out" s_law_laid_out)
    (d29 : Df K "_law_row_out" s_law_row_out)
    (d30 : Df K "_law_both" s_law_both)
    (d31 : Df K "_law_module" s_law_module)
    (d32 : Df K "law" s_law) :
    ∃ fd : FuncData, (∀ (s : Shared) (v : Value), BindsTo s fd ⟨[v], []⟩ [("_law_script", v)]) ∧ ∀ base : Heap, K.In base → base.Ns mainGlobals mg → FnG l.prog w K mg base CX0 34 fa fd ["_law_script"] (spLaw K) := by
  obtain ⟨fl, fdl, al, Fl⟩ := d32.ex
  have e := hfa.symm.trans (PySem.W.mg_of X G al)
  cases e
  have n := fun {x : Str} (z : PySem.W.nsIn K mainGlobals x = some none) => PySem.W.mg_none_of X G z
  have T : Tb K w mg C := ⟨n z0, n z1, n z2, n z3, n z4, n z5, n z6, n z7, n z8, n z9, g10, g11, g12, g13, g14, g15, g16, g17, g18, g19, gd20, gd21, DC.cl, f23, f24, f25⟩
  refine ⟨fdl, fun s v => ?_, fun base _ _ => ?_⟩
  · obtain ⟨oc, od, kV, doc, pm, an, cdv, ct, osl, rfl, lk, hcd⟩ := Fl.ex
    exact .of_eq rfl
  · obtain ⟨f2, fd2, a2, F2⟩ := d19.ex
    have c_law_draw : Cal l.prog w K mg base "_law_draw" 1 ["_law_deck_here", "_law_sides"] 1 spDraw := cal_mk X G d20 (fun _ _ _ _ _ _ us hl => match us, hl with | [_, _], _ => rfl) fun f fd F => ok_draw F
    have wo : ∀ d, Cal l.prog w K mg base "words_of" (d + 1) ["part"] 0 (spWords d) := fun d => by
      induction d with
      | zero => exact cal_mk X G d1 (fun _ _ _ _ _ _ us hl => match us, hl with | [_], _ => rfl) fun f fd F => fn_never fun as Pd ⟨_, _, _, _, _, z, _⟩ => absurd z (Nat.not_succ_le_zero _)
      | succ d ih => exact cal_mk X G d1 (fun _ _ _ _ _ _ us hl => match us, hl with | [_], _ => rfl) fun f fd F => ok_words_of T ih F
    have c_words_of : Cal l.prog w K mg base "words_of" 14 ["part"] 0 (spWords 13) := wo 13
    have c_row_words : Cal l.prog w K mg base "row_words" 15 ["row"] 0 spRowW := cal_mk X G d2 (fun _ _ _ _ _ _ us hl => match us, hl with | [_], _ => rfl) fun f fd F => ok_row_words T c_words_of F
    have c_show_module : Cal l.prog w K mg base "show_module" 16 ["tree"] 0 spShow := cal_mk X G d3 (fun _ _ _ _ _ _ us hl => match us, hl with | [_], _ => rfl) fun f fd F => ok_show_module T c_row_words F
    have c_show_moduleK : CalK l.prog w K mg base "show_module" 16 ["tree"] 0 spShow := calK_mk X G d3 (fun _ _ _ _ _ _ us hl => match us, hl with | [_], _ => rfl) fun f fd F => ok_show_module T c_row_words F
    have c_is_name : Cal l.prog w K mg base "is_name" 1 ["thing"] 0 spIsName := cal_mk X G d4 (fun _ _ _ _ _ _ us hl => match us, hl with | [_], _ => rfl) fun f fd F => ok_is_name T F
    have c_is_told_name : Cal l.prog w K mg base "is_told_name" 2 ["word"] 0 spTold := cal_mk X G d5 (fun _ _ _ _ _ _ us hl => match us, hl with | [_], _ => rfl) fun f fd F => ok_is_told_name T c_is_name F
    have c_number_in : Cal l.prog w K mg base "number_in" 1 ["word"] 0 spNumIn := cal_mk X G d6 (fun _ _ _ _ _ _ us hl => match us, hl with | [_], _ => rfl) fun f fd F => ok_number_in T F
    have mk_RowReader : MkM l.prog w K mg base "RowReader" C 1 ["self", "row", "words"] 0 (spIni C) := mkm_mk X G DC d7 (fun _ _ _ _ _ _ us hl => match us, hl with | [_, _, _], _ => rfl) fun f fd F => ok_RowReader_init T F
    have m_place_now : MthM l.prog w K mg base C "place_now" 1 ["self"] 0 (spPl C) := mth_mk d8 (fun _ _ _ _ _ _ us hl => match us, hl with | [_], _ => rfl) fun f fd F => ok_RowReader_place_now T F
    have m_is_at_end : MthM l.prog w K mg base C "is_at_end" 1 ["self"] 0 (spEn C) := mth_mk d9 (fun _ _ _ _ _ _ us hl => match us, hl with | [_], _ => rfl) fun f fd F => ok_RowReader_is_at_end T F
    have m_must : MthM l.prog w K mg base C "must" 1 ["self", "good"] 0 (spMu C) := mth_mk d10 (fun _ _ _ _ _ _ us hl => match us, hl with | [_, _], _ => rfl) fun f fd F => ok_RowReader_must T F
    have m_peeked : MthM l.prog w K mg base C "peeked" 2 ["self"] 0 (spPe C) := mth_mk d11 (fun _ _ _ _ _ _ us hl => match us, hl with | [_], _ => rfl) fun f fd F => ok_RowReader_peeked T m_must m_is_at_end F
    have m_name_taken : MthM l.prog w K mg base C "name_taken" 3 ["self"] 0 (spNa C) := mth_mk d12 (fun _ _ _ _ _ _ us hl => match us, hl with | [_], _ => rfl) fun f fd F => ok_RowReader_name_taken T m_must m_peeked c_is_name F
    have m_number_taken : MthM l.prog w K mg base C "number_taken" 3 ["self", "least", "most"] 0 (spNu C) := mth_mk d13 (fun _ _ _ _ _ _ us hl => match us, hl with | [_, _, _], _ => rfl) fun f fd F => ok_RowReader_number_taken T m_must m_peeked c_number_in F
    have pt : ∀ d, MthM l.prog w K mg base C "expression_taken" (2 * d + 5) ["self", "deep"] 0 (spEx C d) → MthM l.prog w K mg base C "part_taken" (2 * d + 6) ["self", "kind", "deep"] 0 (spPa C d) := fun d c => mth_mk d14 (fun _ _ _ _ _ _ us hl => match us, hl with | [_, _, _], _ => rfl) fun f fd F => ok_RowReader_part_taken T m_place_now m_name_taken m_number_taken c F
    have ex : ∀ d, MthM l.prog w K mg base C "expression_taken" (2 * d + 5) ["self", "deep"] 0 (spEx C d) := fun d => by
      induction d with
      | zero => exact mth_mk d15 (fun _ _ _ _ _ _ us hl => match us, hl with | [_, _], _ => rfl) fun f fd F => fn_neverM fun as Pd ⟨_, _, _, _, _, e, _, _, z, _⟩ => absurd z (Nat.not_le.mpr e.dep_pos)
      | succ d ih => exact mth_mk d15 (fun _ _ _ _ _ _ us hl => match us, hl with | [_, _], _ => rfl) fun f fd F => ok_RowReader_expression_taken T m_place_now m_must m_peeked c_is_told_name (pt d ih) F
    have m_expression_taken : MthM l.prog w K mg base C "expression_taken" 29 ["self", "deep"] 0 (spEx C 12) := ex 12
    have m_part_taken : MthM l.prog w K mg base C "part_taken" 30 ["self", "kind", "deep"] 0 (spPa C 12) := pt 12 (ex 12)
    have m_use_taken : MthM l.prog w K mg base C "use_taken" 30 ["self"] 0 (spUs C) := mth_mk d16 (fun _ _ _ _ _ _ us hl => match us, hl with | [_], _ => rfl) fun f fd F => ok_RowReader_use_taken T m_is_at_end m_name_taken m_number_taken m_expression_taken F
    have m_row_taken : MthM l.prog w K mg base C "row_taken" 31 ["self"] 0 (spRo C) := mth_mk d17 (fun _ _ _ _ _ _ us hl => match us, hl with | [_], _ => rfl) fun f fd F => ok_RowReader_row_taken T m_is_at_end m_must m_peeked m_use_taken m_part_taken F
    have c_read_module : Cal l.prog w K mg base "read_module" 32 ["text"] 0 spRead := cal_mk X G d18 (fun _ _ _ _ _ _ us hl => match us, hl with | [_], _ => rfl) fun f fd F => ok_read_module T mk_RowReader m_row_taken F
    have c_law_pick : Cal l.prog w K mg base "_law_pick" 2 ["_law_deck_here", "_law_some"] 1 spPick := cal_mk X G d21 (fun _ _ _ _ _ _ us hl => match us, hl with | [_, _], _ => rfl) fun f fd F => ok_pick T c_law_draw F
    have c_law_kept : Cal l.prog w K mg base "_law_kept" 1 [] 0 spKept := cal_mk X G d22 (fun _ _ _ _ _ _ us hl => match us, hl with | [], _ => rfl) fun f fd F => ok_kept T F
    have c_law_name : Cal l.prog w K mg base "_law_name" 3 ["_law_deck_here"] 20 spName := cal_mk X G d23 (fun _ _ _ _ _ _ us hl => match us, hl with | [_], _ => rfl) fun f fd F => ok_name T c_law_draw c_law_pick c_law_kept F
    have c_law_shapes : Cal l.prog w K mg base "_law_shapes" 1 [] 0 spShapes := cal_mk X G d24 (fun _ _ _ _ _ _ us hl => match us, hl with | [], _ => rfl) fun f fd F => ok_shapes T F
    have c_law_number : Cal l.prog w K mg base "_law_number" 2 ["_law_deck_here", "_law_kind"] 10 spNumb := cal_mk X G d25 (fun _ _ _ _ _ _ us hl => match us, hl with | [_, _], _ => rfl) fun f fd F => ok_number T c_law_draw F
    have xp : ∀ L, CalM l.prog w K mg base "_law_expression" (L + 4) ["_law_deck_here", "_law_left", "_law_room"] (eC L) (spExpr L) := fun L => by
      induction L with
      | zero => exact calM_mk X G d26 (fun _ _ _ _ _ _ us hl => match us, hl with | [_, _, _], _ => rfl) fun f fd F => fn_neverM fun as Pd ⟨_, _, _, z1, z2, _⟩ => by omega
      | succ L ih => exact calM_mk X G d26 (fun _ _ _ _ _ _ us hl => match us, hl with | [_, _, _], _ => rfl) fun f fd F => ok_expression T c_law_draw c_law_shapes c_law_number c_law_name ih F
    have c_law_expression : CalM l.prog w K mg base "_law_expression" 16 ["_law_deck_here", "_law_left", "_law_room"] (eC 12) (spExpr 12) := xp 12
    have c_law_row : Cal l.prog w K mg base "_law_row" 17 ["_law_deck_here", "_law_deep"] rC spRow := cal_mk X G d27 (fun _ _ _ _ _ _ us hl => match us, hl with | [_, _], _ => rfl) fun f fd F => ok_row T c_law_draw c_law_number c_law_name c_law_expression F
    have lo : ∀ d, Cal l.prog w K mg base "_law_laid_out" (d + 1) ["_law_part", "_law_row_here", "_law_at"] 0 (spLaid d) := fun d => by
      induction d with
      | zero => exact cal_mk X G d28 (fun _ _ _ _ _ _ us hl => match us, hl with | [_, _, _], _ => rfl) fun f fd F => fn_never fun as Pd ⟨e, _, _, _, _, z, _⟩ => absurd z (Nat.not_le.mpr e.dep_pos)
      | succ d ih => exact cal_mk X G d28 (fun _ _ _ _ _ _ us hl => match us, hl with | [_, _, _], _ => rfl) fun f fd F => ok_laid_out T ih F
    have c_law_laid_out : Cal l.prog w K mg base "_law_laid_out" 13 ["_law_part", "_law_row_here", "_law_at"] 0 (spLaid 12) := lo 12
    have c_law_row_out : Cal l.prog w K mg base "_law_row_out" 14 ["_law_made", "_law_row_here"] 0 spRowOut := cal_mk X G d29 (fun _ _ _ _ _ _ us hl => match us, hl with | [_, _], _ => rfl) fun f fd F => ok_row_out T c_law_laid_out F
    have c_law_both : Cal l.prog w K mg base "_law_both" 15 ["_law_made"] 0 spBoth := cal_mk X G d30 (fun _ _ _ _ _ _ us hl => match us, hl with | [_], _ => rfl) fun f fd F => ok_both T c_law_row_out F
    have c_law_module : Cal l.prog w K mg base "_law_module" 18 ["_law_deck_here", "_law_most", "_law_deep"] (14 * rC + 10) spModule := cal_mk X G d31 (fun _ _ _ _ _ _ us hl => match us, hl with | [_, _, _], _ => rfl) fun f fd F => ok_module T c_law_draw c_law_row F
    exact ok_law T (ok_deck T.n_len T.n_list F2) (PySem.W.mg_of X G a2) F2.kp (F2.binds fun _ _ _ _ _ _ us hl => match us, hl with | [_], _ => rfl) c_law_draw c_law_name c_law_module c_law_both c_read_module c_show_module c_show_moduleK Fl
end
end L05
open PySem PySem.W PyProof.Rows
set_option maxHeartbeats 0 in
theorem PySem.Challenge.cw_wiretongue_k05_whole_written_and_read_ag_holds : PySem.Challenge.rw_wiretongue_k05_whole_written_and_read_ag.Holds := by
  w_on; o_law; k_head; (case hw => w_witness2)
  k_fill
  refine DL.walkG (l := PySem.Challenge.rw_wiretongue_k05_whole_written_and_read_ag) (n := 63) (k := 34) (x := "_law_script") (sp := DL.spLaw) rfl (by decide) rfl ⟨⟨rfl, by decide, by decide⟩, rfl⟩ (fun w h Y => PySem.W.kIn_of Y) ?F (fun K H a ns hl hb _ hS => ⟨a, ns, rfl, hS, hl, hb, fun _ => rfl⟩)
  case F =>
    intro w mg fa h KX G hmg
    refine' L05.all_mk KX G hmg ⟨?aC, ⟨?pgC, ?hdC, ?poC, ?saC⟩, ?mkC, ?kcC⟩ ?z0 ?z1 ?z2 ?z3 ?z4 ?z5 ?z6 ?z7 ?z8 ?z9 (DL.glob_str KX G ?h10) (DL.glob_str KX G ?h11) (DL.glob_int KX G ?h12) (DL.glob_int KX G ?h13) (DL.glob_int KX G ?h14) (DL.glob_int KX G ?h15) (DL.glob_int KX G ?h16) (DL.glob_int KX G ?h17) (DL.glob_tup (vs := [.str "clock", .str "in", .str "out", .str "wire", .str "box", .str "cross", .str "use", .str "num", .str "not", .str "and", .str "or", .str "xor", .str "sum", .str "same", .str "below", .str "pick", .str "join", .str "cut", .str "bit", .str "one"]) KX G ?h18 ?m18 ?s18 ?v18 (fun _ => (.cons (.str _) (.cons (.str _) (.cons (.str _) (.cons (.str _) (.cons (.str _) (.cons (.str _) (.cons (.str _) (.cons (.str _) (.cons (.str _) (.cons (.str _) (.cons (.str _) (.cons (.str _) (.cons (.str _) (.cons (.str _) (.cons (.str _) (.cons (.str _) (.cons (.str _) (.cons (.str _) (.cons (.str _) (.cons (.str _) .nil)))))))))))))))))))))) (DL.glob_tup (vs := [.str "num"]) KX G ?h19 ?m19 ?s19 ?v19 (fun _ => (.cons (.str _) .nil))) (DL.gdict_mk KX G ?q20 ?r20 ?t20 ?u20 ?w20) (DL.gdict_mk KX G ?q21 ?r21 ?t21 ?u21 ?w21) ?f23 ?f24 ?f25 (DL.df_mk ?a1 ?l1 ?c1 ?k1) (DL.df_mk ?a2 ?l2 ?c2 ?k2) (DL.df_mk ?a3 ?l3 ?c3 ?k3) (DL.df_mk ?a4 ?l4 ?c4 ?k4) (DL.df_mk ?a5 ?l5 ?c5 ?k5) (DL.df_mk ?a6 ?l6 ?c6 ?k6) (DL.dfm_mk ?a7 ?i7 ?l7 ?c7 ?k7) (DL.dfm_mk ?a8 ?i8 ?l8 ?c8 ?k8) (DL.dfm_mk ?a9 ?i9 ?l9 ?c9 ?k9) (DL.dfm_mk ?a10 ?i10 ?l10 ?c10 ?k10) (DL.dfm_mk ?a11 ?i11 ?l11 ?c11 ?k11) (DL.dfm_mk ?a12 ?i12 ?l12 ?c12 ?k12) (DL.dfm_mk ?a13 ?i13 ?l13 ?c13 ?k13) (DL.dfm_mk ?a14 ?i14 ?l14 ?c14 ?k14) (DL.dfm_mk ?a15 ?i15 ?l15 ?c15 ?k15) (DL.dfm_mk ?a16 ?i16 ?l16 ?c16 ?k16) (DL.dfm_mk ?a17 ?i17 ?l17 ?c17 ?k17) (DL.df_mk ?a18 ?l18 ?c18 ?k18) (DL.df_mk ?a19 ?l19 ?c19 ?k19) (DL.df_mk ?a20 ?l20 ?c20 ?k20) (DL.df_mk ?a21 ?l21 ?c21 ?k21) (DL.df_mk ?a22 ?l22 ?c22 ?k22) (DL.df_mk ?a23 ?l23 ?c23 ?k23) (DL.df_mk ?a24 ?l24 ?c24 ?k24) (DL.df_mk ?a25 ?l25 ?c25 ?k25) (DL.df_mk ?a26 ?l26 ?c26 ?k26) (DL.df_mk ?a27 ?l27 ?c27 ?k27) (DL.df_mk ?a28 ?l28 ?c28 ?k28) (DL.df_mk ?a29 ?l29 ?c29 ?k29) (DL.df_mk ?a30 ?l30 ?c30 ?k30) (DL.df_mk ?a31 ?l31 ?c31 ?k31) (DL.df_mk ?a32 ?l32 ?c32 ?k32)
    (case aC => k_is); (case pgC => k_is); (case hdC => k_is); (case poC => k_is); (case saC => k_is); (case mkC => k_is); (case kcC => k_is)
    (case z0 => k_is)
    (case z1 => k_is)
    (case z2 => k_is)
    (case z3 => k_is)
    (case z4 => k_is)
    (case z5 => k_is)
    (case z6 => k_is)
    (case z7 => k_is)
    (case z8 => k_is)
    (case z9 => k_is)
    (case h10 => k_is)
    (case h11 => k_is)
    (case h12 => k_is)
    (case h13 => k_is)
    (case h14 => k_is)
    (case h15 => k_is)
    (case h16 => k_is)
    (case h17 => k_is)
    (case h18 => k_is)
    (case m18 => k_is); (case s18 => show (20 : Nat) ≤ _; decide); (case v18 => repeat (first | exact .nil | refine .cons ⟨_, rfl⟩ ?_))
    (case h19 => k_is)
    (case m19 => k_is); (case s19 => show (1 : Nat) ≤ _; decide); (case v19 => repeat (first | exact .nil | refine .cons ⟨_, rfl⟩ ?_))
    (case q20 => k_is); (case r20 => k_is)
    (case u20 => decide)
    (case t20 => repeat (first | exact trivial | refine ⟨⟨_, _, rfl, rfl⟩, ?_⟩))
    (case w20 => repeat (first | exact .nil | refine .cons (v := .str _) rfl ⟨_, rfl⟩ (fun _ => .str _) ?_))
    (case q21 => k_is); (case r21 => k_is)
    (case u21 => decide)
    (case t21 => repeat (first | exact trivial | refine ⟨⟨_, _, rfl, rfl⟩, ?_⟩))
    (case w21 => repeat (first | exact .nil | refine .cons (v := .str _) rfl ⟨_, rfl⟩ (fun _ => .str _) ?_))
    (case f23 => show PySem.W.findIn _ _ _ = _; k_is)
    (case f24 => show PySem.W.findIn _ _ _ = _; k_is)
    (case f25 => show PySem.W.findIn _ _ _ = _; k_is)
    (case a1 => k_is); (case l1 => k_is); (case c1 => k_is); (case k1 => k_is)
    (case a2 => k_is); (case l2 => k_is); (case c2 => k_is); (case k2 => k_is)
    (case a3 => k_is); (case l3 => k_is); (case c3 => k_is); (case k3 => k_is)
    (case a4 => k_is); (case l4 => k_is); (case c4 => k_is); (case k4 => k_is)
    (case a5 => k_is); (case l5 => k_is); (case c5 => k_is); (case k5 => k_is)
    (case a6 => k_is); (case l6 => k_is); (case c6 => k_is); (case k6 => k_is)
    (case a7 => k_is); (case i7 => k_is); (case l7 => k_is); (case c7 => k_is); (case k7 => k_is)
    (case a8 => k_is); (case i8 => k_is); (case l8 => k_is); (case c8 => k_is); (case k8 => k_is)
    (case a9 => k_is); (case i9 => k_is); (case l9 => k_is); (case c9 => k_is); (case k9 => k_is)
    (case a10 => k_is); (case i10 => k_is); (case l10 => k_is); (case c10 => k_is); (case k10 => k_is)
    (case a11 => k_is); (case i11 => k_is); (case l11 => k_is); (case c11 => k_is); (case k11 => k_is)
    (case a12 => k_is); (case i12 => k_is); (case l12 => k_is); (case c12 => k_is); (case k12 => k_is)
    (case a13 => k_is); (case i13 => k_is); (case l13 => k_is); (case c13 => k_is); (case k13 => k_is)
    (case a14 => k_is); (case i14 => k_is); (case l14 => k_is); (case c14 => k_is); (case k14 => k_is)
    (case a15 => k_is); (case i15 => k_is); (case l15 => k_is); (case c15 => k_is); (case k15 => k_is)
    (case a16 => k_is); (case i16 => k_is); (case l16 => k_is); (case c16 => k_is); (case k16 => k_is)
    (case a17 => k_is); (case i17 => k_is); (case l17 => k_is); (case c17 => k_is); (case k17 => k_is)
    (case a18 => k_is); (case l18 => k_is); (case c18 => k_is); (case k18 => k_is)
    (case a19 => k_is); (case l19 => k_is); (case c19 => k_is); (case k19 => k_is)
    (case a20 => k_is); (case l20 => k_is); (case c20 => k_is); (case k20 => k_is)
    (case a21 => k_is); (case l21 => k_is); (case c21 => k_is); (case k21 => k_is)
    (case a22 => k_is); (case l22 => k_is); (case c22 => k_is); (case k22 => k_is)
    (case a23 => k_is); (case l23 => k_is); (case c23 => k_is); (case k23 => k_is)
    (case a24 => k_is); (case l24 => k_is); (case c24 => k_is); (case k24 => k_is)
    (case a25 => k_is); (case l25 => k_is); (case c25 => k_is); (case k25 => k_is)
    (case a26 => k_is); (case l26 => k_is); (case c26 => k_is); (case k26 => k_is)
    (case a27 => k_is); (case l27 => k_is); (case c27 => k_is); (case k27 => k_is)
    (case a28 => k_is); (case l28 => k_is); (case c28 => k_is); (case k28 => k_is)
    (case a29 => k_is); (case l29 => k_is); (case c29 => k_is); (case k29 => k_is)
    (case a30 => k_is); (case l30 => k_is); (case c30 => k_is); (case k30 => k_is)
    (case a31 => k_is); (case l31 => k_is); (case c31 => k_is); (case k31 => k_is)
    (case a32 => k_is); (case l32 => k_is); (case c32 => k_is); (case k32 => k_is)
